import PyProof.Rows.All
import Wide.All
import OpenK.AllK
import Wide.FinOn
import HandS.Words
import HandS.Head0
import HandS.Head1
import HandS.Head2
import HandS.HeadHook1
import HandS.TupAny
import HandS.TupMul
import HandS.Conv
import HandS.Iter
import HandS.Deep
import HandS.ForMost
import HandS.Exc
import HandS.ExcOwn
import HandS.TryOnly
import HandS.WordsExc
import HandS.Wide
import HandS.IsInst
import HandS.Walk
import HandS.Zip
import HandS.Evl
import HandS.ExcIs
import HandS.Lambda
import HandS.HeadEnd
import PyProof.ReprBulk
import KE.KTupSum
import HandS.Style
import HandS.Dict
import KE.GoesEnum
import HandS.Flt
import KE.DatumOrd
import PyProof.P3In
import HandS.SetFor
import HandS.Strs
import HandS.ExcCtx
import HandS.HotCalls
import HandS.More
import KE.SortData
import KE.DataAny
import KE.KDictSum
import KE.GoesComp
import HandS.TupSets
import KE.SortKeyHeap
import HandS.SortKw
import HandS.EndTab
import HandS.WordsDict
import KE.KDictPairs
import KE.KEqDict
import KE.KDictCopyH
import HandS.ListItems
import HandS.Hot
import PySem.Challenge.RW_prizelog_k45_sales_judged
set_option Elab.async false
set_option linter.all false
set_option maxRecDepth 100000
set_option maxHeartbeats 4000000
/-! The data layer, part A: what the head's run looks at (it stands ahead of all else in a hand-in). -/
namespace DL
open PySem PySem.Spec PyProof.Rows L2
/-- the classes of refusals -/
def exNames : List Str := "PrizeError" :: "NoWeights" :: "NoPart" :: "NoNumber" :: "NoLog" :: "NoChase" :: "NoMiles" :: "NoLogs" :: "NoTable" :: "NoSights" :: "NoSet" :: "NoRoll" :: "NoName" :: "NoHour" :: "NoScheme" :: "NoCrew" :: "NoMan" :: "NoSale" :: "NoCrews" :: "NoPages" :: "NoPage" :: "NoPrize" :: "NoBalances" :: "NoMoney" :: "NoChange" :: "TooMany" :: "NoText" :: "NoRow" :: []
def exBases : List Value := [.type "ValueError", .type "Exception", .type "BaseException", .type "object"]
def exTypes : List String := ["int", "bool", "str", "tuple", "dict"]
/-- whether the one is the other or of it -/
def exSub (c d : Str) : Bool := decide (c = d) || decide (d = "PrizeError")
/-- what a class of refusals must say -/
def xcB (K : PySem.W.Frag) (c : Str) : Bool :=
  decide (PySem.W.findIn K (.ref (He.ga K c)) "__getattribute__" = some (some (.builtin "BaseException.__getattribute__"))) &&
  (decide (PySem.W.findIn K (.ref (He.ga K c)) "__getattr__" = some none) &&
  (decide (PySem.W.subIn K (.ref (He.ga K c)) (.type "BaseException") = some true) &&
  (PySem.W.hasDictIn K (He.ga K c) &&
  (decide (PySem.W.findIn K (.ref (He.ga K c)) "__class__" = some (some (.builtin "object.__class__"))) &&
  (decide (PySem.W.specialIn K (.builtin "object.__class__") "__get__" = some (some (.builtin "getset_descriptor.__get__"))) &&
  (decide (PySem.W.takesIn K (.builtin "object.__class__") = some true) &&
  (decide (PySem.W.mroIn K (He.ga K c) (.type "object") = some true) &&
  (PySem.W.excIn K (He.ga K c) exBases "ValueError.__new__" &&
  (PySem.W.keepIn K (.ref (He.ga K c)) &&
  (decide (PySem.W.typeIn K (.ref (He.ga K c)) = some (.type "type")) &&
  (decide (PySem.W.exmOne K (.ref (He.ga K c)) (.ref (He.ga K "PrizeError")) = some true) &&
  (decide (PySem.W.kitOne K (.ref (He.ga K c)) (.type "ValueError") = some true) &&
  (exTypes.all (fun T => decide (PySem.W.kitOne K (.ref (He.ga K c)) (.type T) = some false)) &&
  exNames.all (fun d => decide (PySem.W.kitOne K (.ref (He.ga K c)) (.ref (He.ga K d)) = some (exSub c d))))))))))))))))
/-- the head's facts, and that the modules' dict stands -/
def sysB (g : Addr → Option Obj) : Bool := match g sysModules with
  | some ⟨_, _, .dict _ _, _⟩ => true
  | _ => false
/-- an empty table of code objects -/
def isTab : Option Obj → Bool
  | some ⟨.none, none, .fields vs, sl⟩ => vs.isEmpty && sl.isEmpty
  | _ => false
def uniT (l : List (Addr × Str)) : Bool := l.all fun p => l.all fun q => decide (p.1 = q.1 → p.2 = q.2)
inductive Fx where
  | tup (x : Str) (ns : List Int)
  | exc (c : Str)
  | txt (x z : Str)
def intsB : List Value → List Int → Bool
  | [], [] => true
  | .int i _ :: r, n :: ns => decide (i = n) && intsB r ns
  | _, _ => false
def tupB (K : PySem.W.Frag) (a : Addr) (ns : List Int) : Bool := match K.lookup a with
  | some ⟨c, none, .seq its _, _⟩ => decide (c = .type "tuple") && (decide (its.size ≤ 1000) && intsB its.toList ns)
  | _ => false
def Fx.ok (K : PySem.W.Frag) : Fx → Bool
  | .tup x ns => He.eqO (PySem.W.nsIn K mainGlobals x) (some (some (.ref (He.ga K x)))) && tupB K (He.ga K x) ns
  | .exc c => He.eqO (PySem.W.nsIn K mainGlobals c) (some (some (.ref (He.ga K c)))) && xcB K c
  | .txt x z => (He.Fa.str x z).ok K
theorem frG_look {g : Addr → Option Obj} {a : Addr} : ∀ as : List Addr, (He.frG g as).lookup a = if a ∈ as then g a else none
  | [] => rfl
  | b :: r => by
    have ih := frG_look (g := g) (a := a) r
    cases hb : g b with
    | none =>
      have e : He.frG g (b :: r) = He.frG g r := by
        unfold He.frG
        rw [List.filterMap_cons, hb]
        rfl
      rw [e, ih]
      by_cases z : a = b
      · subst z
        by_cases m : a ∈ r <;> simp [m, hb]
      · simp [z]
    | some o =>
      have e : He.frG g (b :: r) = (b, o) :: He.frG g r := by
        unfold He.frG
        rw [List.filterMap_cons, hb]
        rfl
      rw [e]
      by_cases z : a = b
      · subst z
        simp [hb]
      · have q : (a == b) = false := by simpa using z
        show (match a == b with | true => some o | false => (He.frG g r).lookup a) = _
        rw [q]
        show (He.frG g r).lookup a = _
        rw [ih]
        simp [z]
/-- the object at an address below n, tables of code left out -/
def kG (g : Addr → Option Obj) (n : Nat) (a : Addr) : Option Obj := match Nat.blt a n with
  | true => (match g a with
    | some o => (match isTab (some o) with
      | true => none
      | false => some o)
    | none => none)
  | false => none
def hotOk (g : Addr → Option Obj) (n : Nat) (hot : List Addr) : Bool := hot.all fun a => Nat.blt a n && !isTab (g a)
/-- all objects below n but tables of code, those of hot first -/
def kAll (g : Addr → Option Obj) (n : Nat) (hot : List Addr) : PySem.W.Frag := He.frG g (hot ++ (List.range n).filter fun a => !isTab (g a))
theorem kAll_look {g : Addr → Option Obj} {n : Nat} {hot : List Addr} (h : hotOk g n hot = true) (a : Addr) : (kAll g n hot).lookup a = kG g n a := by
  have hm : (a ∈ hot ++ (List.range n).filter fun a => !isTab (g a)) ↔ (a < n ∧ isTab (g a) = false) := by
    rw [List.mem_append, List.mem_filter, List.mem_range]
    constructor
    · rintro (m | ⟨h1, h2⟩)
      · obtain ⟨z1, z2⟩ := He.ba (List.all_eq_true.mp h a m)
        exact ⟨Nat.le_of_ble_eq_true z1, by simpa using z2⟩
      · exact ⟨h1, by simpa using h2⟩
    · rintro ⟨h1, h2⟩
      exact .inr ⟨h1, by simp [h2]⟩
  unfold kAll
  rw [frG_look]
  unfold kG
  by_cases lt : a < n
  · rw [show Nat.blt a n = true from Nat.ble_eq_true_of_le lt]
    cases q : g a with
    | none => simp
    | some o =>
      cases t : isTab (some o) with
      | true =>
        rw [if_neg fun m => by
          have := (hm.mp m).2
          rw [q, t] at this
          cases this]
        simp [t]
      | false => rw [if_pos (hm.mpr ⟨lt, by rw [q, t]⟩)]; simp [t]
  · rw [show Nat.blt a n = false from by
      cases z : Nat.blt a n with
      | false => rfl
      | true => exact absurd (Nat.le_of_ble_eq_true z) lt]
    rw [if_neg fun m => lt (hm.mp m).1]
/-! ### names by numbers -/
def codeS (x : Str) : Nat := x.cps.toList.foldl (fun a c => a * 1114112 + c) 7
def codeV : Value → Nat
  | .str x _ => codeS x
  | _ => 0
def nsE (o : Option Obj) (x : Str) : Option (Option Value) := match o with
  | some ⟨_, _, .dict es _, _⟩ => (match es.toList.find? (fun e => match Nat.beq (codeV e.key) (codeS x) with
      | true => e.key.isStr x
      | false => false) with
    | some e => some (some e.val)
    | none => if es.toList.any (·.refKey) then none else some none)
  | _ => none
theorem isStr_code (x : Str) (e : DictEntry) : (match Nat.beq (codeV e.key) (codeS x) with
      | true => e.key.isStr x
      | false => false) = e.key.isStr x := by
  cases q : Nat.beq (codeV e.key) (codeS x) with
  | true => rfl
  | false =>
    cases z : e.key.isStr x with
    | false => rfl
    | true =>
      exfalso
      cases k : e.key with
      | str y t =>
        rw [k] at z q
        have e1 : (y == x) = true := z
        have e2 : y = x := by simpa using e1
        rw [e2] at q
        have q2 : Nat.beq (codeS x) (codeS x) = false := q
        rw [Nat.beq_refl] at q2
        cases q2
      | _ => rw [k] at z; cases z
theorem nsE_eq (K : PySem.W.Frag) (ns : Addr) (x : Str) : PySem.W.nsIn K ns x = nsE (K.lookup ns) x := by
  unfold PySem.W.nsIn nsE
  have e : (fun e : DictEntry => match Nat.beq (codeV e.key) (codeS x) with
      | true => e.key.isStr x
      | false => false) = fun e => e.key.isStr x := funext fun e => isStr_code x e
  rw [e]
  rfl
def gaF (o : Option Obj) (x : Str) : Addr := match nsE o x with
  | some (some (.ref a)) => a
  | _ => 0
def isRf (o : Option Obj) (x : Str) : Bool := match nsE o x with
  | some (some (.ref _)) => true
  | _ => false
section
variable {K : PySem.W.Frag} {g : Addr → Option Obj} {n : Nat} {o : Option Obj}
theorem gaF_eq (ho : K.lookup mainGlobals = o) (x : Str) : He.ga K x = gaF o x := by
  unfold He.ga gaF
  rw [nsE_eq, ho]
  rfl
theorem isRf_ok (ho : K.lookup mainGlobals = o) {x : Str} (h : isRf o x = true) : He.eqO (PySem.W.nsIn K mainGlobals x) (some (some (.ref (He.ga K x)))) = true := by
  unfold isRf at h
  unfold He.eqO He.ga
  rw [nsE_eq, ho]
  cases q : nsE o x with
  | none => rw [q] at h; cases h
  | some v =>
    cases v with
    | none => rw [q] at h; cases h
    | some v =>
      cases v with
      | ref a => simp
      | _ => rw [q] at h; cases h
def faF (K : PySem.W.Frag) (g : Addr → Option Obj) (n : Nat) (o : Option Obj) : He.Fa → Bool
  | .glo x => isRf o x
  | .free x => (match nsE o x with
    | some none => true
    | _ => false)
  | .int x i => (match nsE o x with
    | some (some (.int j _)) => decide (j = i)
    | _ => false)
  | .keep x => (match kG g n (gaF o x) with
    | some ⟨_, _, .func _, _⟩ => true
    | _ => false)
  | f => f.ok K
theorem faF_ok (ho : K.lookup mainGlobals = o) (hk : ∀ a, K.lookup a = kG g n a) {f : He.Fa} (h : faF K g n o f = true) : f.ok K = true := by
  cases f with
  | glo x => exact isRf_ok ho h
  | free x =>
    have h : (match nsE o x with
      | some none => true
      | _ => false) = true := h
    show decide (PySem.W.nsIn K mainGlobals x = some none) = true
    rw [nsE_eq, ho]
    split at h
    · rename_i e
      rw [e]
      simp
    · cases h
  | int x i =>
    have h : (match nsE o x with
      | some (some (.int j _)) => decide (j = i)
      | _ => false) = true := h
    show (match PySem.W.nsIn K mainGlobals x with
      | some (some (.int j _)) => decide (j = i)
      | _ => false) = true
    rw [nsE_eq, ho]
    exact h
  | keep x =>
    have h : (match kG g n (gaF o x) with
      | some ⟨_, _, .func _, _⟩ => true
      | _ => false) = true := h
    show PySem.W.keepIn K (.ref (He.ga K x)) = true
    unfold PySem.W.keepIn
    dsimp only
    rw [hk, gaF_eq ho]
    split at h
    · rename_i e
      rw [e]
    · cases h
  | _ => exact h
/-- a def's address -/
def fAdF (K : PySem.W.Frag) (o : Option Obj) (p : Str × Option Str) : Addr := match p.2 with
  | none => gaF o p.1
  | some m => He.ma K (He.ga K p.1) m
theorem fAdF_eq (ho : K.lookup mainGlobals = o) (p : Str × Option Str) : He.fAd K p = fAdF K o p := by
  unfold He.fAd fAdF
  cases p.2 with
  | none => exact gaF_eq ho _
  | some m => rfl
def codeF (g : Addr → Option Obj) (n : Nat) (q : Str) : Value → Bool
  | .ref c => (match kG g n c with
      | some ⟨_, _, .fields vs, _⟩ => (match vs.toList with | _ :: .str n _ :: _ => n == q | _ => false)
      | _ => false)
  | _ => false
theorem codeF_eq (hk : ∀ a, K.lookup a = kG g n a) (v : Value) (q : Str) : PySem.W.codeIn K v q = codeF g n q v := by
  unfold PySem.W.codeIn codeF
  cases v with
  | ref c => dsimp only; rw [hk]; rfl
  | _ => rfl
def dcF (K : PySem.W.Frag) (g : Addr → Option Obj) (n : Nat) (o : Option Obj) (d : He.FnD) : Bool := match kG g n (fAdF K o d.at_) with
  | some ⟨_, _, .func fd, _⟩ => codeF g n d.qual fd.code
  | _ => false
def dvF (K : PySem.W.Frag) (g : Addr → Option Obj) (n : Nat) (o : Option Obj) (d : He.FnD) : He.FnV := match kG g n (fAdF K o d.at_) with
  | some ⟨_, _, .func fd, _⟩ => some (fd.name, fd.qualname, fd.params, fd.body, fd.scope, fd.globals, fd.closure, fd.defaults, fd.builtins)
  | _ => none
theorem dcF_eq (ho : K.lookup mainGlobals = o) (hk : ∀ a, K.lookup a = kG g n a) (d : He.FnD) : (He.Fa.code d.at_ d.qual).ok K = dcF K g n o d := by
  show (match K.lookup (He.fAd K d.at_) with
    | some ⟨_, _, .func fd, _⟩ => PySem.W.codeIn K fd.code d.qual
    | _ => false) = _
  unfold dcF
  rw [hk, fAdF_eq ho]
  split
  · exact codeF_eq hk _ _
  · rfl
theorem dvF_eq (ho : K.lookup mainGlobals = o) (hk : ∀ a, K.lookup a = kG g n a) (d : He.FnD) : He.fnObs K d.at_ = dvF K g n o d := by
  unfold He.fnObs dvF
  rw [hk, fAdF_eq ho]
  rfl
/-! ### more facts -/
def fxF (K : PySem.W.Frag) (g : Addr → Option Obj) (n : Nat) (o : Option Obj) : Fx → Bool
  | .tup x ns => isRf o x && (match kG g n (gaF o x) with
    | some ⟨c, none, .seq its _, _⟩ => decide (c = .type "tuple") && (decide (its.size ≤ 1000) && intsB its.toList ns)
    | _ => false)
  | .exc c => isRf o c && xcB K c
  | .txt x z => (match nsE o x with
    | some (some (.str y _)) => decide (y = z)
    | _ => false)
theorem fxF_ok (ho : K.lookup mainGlobals = o) (hk : ∀ a, K.lookup a = kG g n a) {f : Fx} (h : fxF K g n o f = true) : f.ok K = true := by
  cases f with
  | tup x ns =>
    obtain ⟨h1, h2⟩ := He.ba h
    unfold Fx.ok
    dsimp only
    rw [isRf_ok ho h1]
    unfold tupB
    rw [hk, gaF_eq ho]
    exact h2
  | exc c =>
    obtain ⟨h1, h2⟩ := He.ba h
    unfold Fx.ok
    dsimp only
    rw [isRf_ok ho h1]
    exact h2
  | txt x z =>
    have h : (match nsE o x with
      | some (some (.str y _)) => decide (y = z)
      | _ => false) = true := h
    show (match PySem.W.nsIn K mainGlobals x with
      | some (some (.str y _)) => decide (y = z)
      | _ => false) = true
    rw [nsE_eq, ho]
    exact h
/-! ### tables -/
def tabF (g : Addr → Option Obj) (n : Nat) (o : Option Obj) (x : Str) : Option (Addr × Addr) := match nsE o x with
  | some (some (.ref f)) => (match kG g n f with
    | some ⟨_, _, .func fd, _⟩ => (match fd.code with
      | .ref c => (match kG g n c with
        | some ⟨_, _, .fields vs, _⟩ => (match (vs[11]? : Option Value) with
          | some (.ref P) => some (c, P)
          | _ => none)
        | _ => none)
      | _ => none)
    | _ => none)
  | _ => none
theorem tabF_eq (ho : K.lookup mainGlobals = o) (hk : ∀ a, K.lookup a = kG g n a) (x : Str) : PySem.W.tabIn K x = tabF g n o x := by
  unfold PySem.W.tabIn tabF
  rw [nsE_eq, ho]
  cases nsE o x with
  | none => rfl
  | some v => cases v with
    | none => rfl
    | some v => cases v with
      | ref f =>
        dsimp only
        rw [hk]
        cases kG g n f with
        | none => rfl
        | some ob =>
          obtain ⟨c, d, dt, sl⟩ := ob
          cases dt with
          | func fd =>
            dsimp only
            cases fd.code with
            | ref c =>
              dsimp only
              rw [hk]
              rfl
            | _ => rfl
          | _ => rfl
      | _ => rfl
def codeHdF (g : Addr → Option Obj) (n : Nat) (c P : Addr) : Bool := match kG g n c with
  | some ⟨.type "code", _, .fields vs, _⟩ => (match (vs[11]? : Option Value) with | some (.ref P') => P' == P | _ => false) &&
      (match vs.getD 18 .none with | .str _ _ => true | _ => false) && (match vs.getD 7 .none with | .int _ _ => true | _ => false) &&
      (match vs.getD 9 .none with | .bool _ => true | _ => false) && (match vs.getD 10 .none with | .int _ _ => true | _ => false) && c != P
  | _ => false
theorem codeHdF_eq (hk : ∀ a, K.lookup a = kG g n a) (c P : Addr) : PySem.W.codeHdIn K c P = codeHdF g n c P := by
  unfold PySem.W.codeHdIn codeHdF
  rw [hk]
  rfl
def lamF (g : Addr → Option Obj) (n : Nat) (o : Option Obj) (lam : List (Str × Str)) : Bool :=
  (lam.all fun p => match tabF g n o p.1 with
    | some (c, P) => codeHdF g n c P && isTab (g P)
    | none => false) && uniT (lam.filterMap fun p => (tabF g n o p.1).map fun z => (z.2, p.2))
end
def nsOf : Option Obj → Addr
  | some ⟨_, _, .cls cd, _⟩ => cd.ns
  | _ => mainGlobals
/-- the addresses that the looks at the classes of refusals ask for -/
def hotX (g : Addr → Option Obj) (n : Nat) (o : Option Obj) (fx : List Fx) : List Addr :=
  mainGlobals :: gaF o "PrizeError" :: nsOf (kG g n (gaF o "PrizeError")) :: fx.flatMap fun f => match f with
    | .exc c => [gaF o c, nsOf (kG g n (gaF o c))]
    | _ => []
def obsF (n : Nat) (fa : List He.Fa) (fn : List He.FnD) (fx : List Fx) (lam : List (Str × Str)) (g : Addr → Option Obj) : He.Al × Bool × Bool × Bool :=
  (((hotOk g n (hotX g n (kG g n mainGlobals) fx) && (fa.all (faF (kAll g n (hotX g n (kG g n mainGlobals) fx)) g n (kG g n mainGlobals)) && fn.all (dcF (kAll g n (hotX g n (kG g n mainGlobals) fx)) g n (kG g n mainGlobals)))), fn.map (dvF (kAll g n (hotX g n (kG g n mainGlobals) fx)) g n (kG g n mainGlobals))),
    sysB g, fx.all (fxF (kAll g n (hotX g n (kG g n mainGlobals) fx)) g n (kG g n mainGlobals)), lamF g n (kG g n mainGlobals) lam)
/-! ### names that are bound -/
def inF (l : List Str) (k : Str) : Bool := l.any fun x => match Nat.beq (codeS x) (codeS k) with
  | true => x == k
  | false => false
theorem inF_eq (l : List Str) (k : Str) : l.contains k = inF l k := by
  rw [Bool.eq_iff_iff, List.contains_iff_mem]
  unfold inF
  rw [List.any_eq_true]
  constructor
  · intro h
    refine ⟨k, h, ?_⟩
    rw [Nat.beq_refl]
    simp
  · rintro ⟨x, hx, e⟩
    cases q : Nat.beq (codeS x) (codeS k) with
    | true =>
      rw [q] at e
      have : x = k := by simpa using e
      exact this ▸ hx
    | false => rw [q] at e; cases e
def boundF (p : Program) (h : Heap) : Bool := h.isNs mainGlobals && (h.nsKeys mainGlobals).all fun k => inF startupNames k || inF p.boundNames k
theorem boundF_eq (p : Program) (h : Heap) : PySem.W.namesBound p h = boundF p h := by
  unfold PySem.W.namesBound boundF
  have e : (fun k => startupNames.contains k || p.boundNames.contains k) = fun k => inF startupNames k || inF p.boundNames k := funext fun k => by rw [inF_eq, inF_eq]
  rw [e]
/-! ### looks put together -/
theorem map_two {α β γ : Type} {o : Option α} {f : α → β} {g : α → γ} {b : β} {c : γ} (h1 : o.map f = some b) (h2 : o.map g = some c) : o.map (fun s => (f s, g s)) = some (b, c) := by
  cases o with
  | none => cases h1
  | some s =>
    cases h1
    cases h2
    rfl
theorem map_and {α : Type} {o : Option α} {f g : α → Bool} (h1 : o.map f = some true) (h2 : o.map g = some true) : o.map (fun s => f s && g s) = some true := by
  cases o with
  | none => cases h1
  | some s =>
    have e1 : f s = true := Option.some.inj h1
    have e2 : g s = true := Option.some.inj h2
    show some (f s && g s) = some true
    rw [e1, e2]
    rfl
end DL

namespace DL
open PySem PySem.Spec PyProof.Rows L2
/-- a tuple's object that has no dict -/
def PlT (o : Obj) : Prop := o.cls = .type "tuple" ∧ o.dict = none
section
variable {X : Cx} {pins : List (Addr × Obj)} {σ : L2.St} {H : Hp} {s : Shared}
theorem layZ (I : Inv X pins σ H s) {xs : List V} {its : List Value} {arr : Array Value} {tk : Nat} (r : Vals xs its) (ha : arr = its.toArray) (hz : xs.length ≤ sizeLine) :
    ∃ o, PlT o ∧ Inv X pins σ (upd H s.heap.objs.size (.frz o (.tup xs))) { s with heap := s.heap.push { cls := .type "tuple", data := .seq arr }, toks := tk } := by
  subst ha
  refine ⟨{ cls := .type "tuple", data := .seq its.toArray }, ⟨rfl, rfl⟩, I.laid (fun b u e => Heap.get?_push_of_some _ e) (Nat.le_refl _) ?_⟩
  exact ⟨Heap.get?_push_size _ rfl, hz, its, r, ⟨_, Heap.get?_push_size _ rfl, rfl, _, rfl⟩⟩
/-- what a new tuple of the items xs is answered with -/
def NewZ (H : Hp) (xs : List V) (Q : VK) : Prop := ∀ p o, H p = none → PlT o → Q (.ref p) (upd H p (.frz o (.tup xs)))
theorem endZ (I : Inv X pins σ H s) {xs : List V} {its : List Value} {arr : Array Value} {tk : Nat} {Q : VK} (r : Vals xs its) (ha : arr = its.toArray) (hz : xs.length ≤ sizeLine) (q : NewZ H xs Q) :
    EP X pins σ Q (.ref s.heap.objs.size) { s with heap := s.heap.push { cls := .type "tuple", data := .seq arr }, toks := tk } := by
  obtain ⟨o, po, J⟩ := layZ (tk := tk) I r ha hz
  exact ⟨.ref s.heap.objs.size, _, J, rfl, q _ _ (I.hok.fresh (Nat.le_refl _)) po⟩
end
section
variable {X : Cx} {a b e : Expr} {es : List Expr} {t : TA} {ta : TE} {pos : Pos}
def tTupZ (t : TA) : TE := fun σ H Q => t σ H fun xs H1 => xs.length ≤ sizeLine ∧ NewZ H1 xs Q
theorem pe_tupZ {x1} (h : PA X es t) : PE X (.Tuple es x1 pos) (tTupZ t) := ⟨fun pins s σ H Q I hq => by
  refine wpAny_Tuple_spliced (thn (h.run pos pins s σ H _ I hq) ?_)
  intro us s1 ⟨xs, H1, I1, r, z, q⟩
  exact ⟨r.length ▸ z, endZ (tk := s1.toks) I1 r rfl z q⟩⟩
def rCatZ (K : PySem.W.Frag) : R2 := fun x y H Q => ∃ a b xs ys, x = .ref a ∧ y = .ref b ∧ SqT K H a xs ∧ SqT K H b ys ∧ xs.length + ys.length ≤ sizeLine ∧
  (xs = [] → Q (.ref b) H) ∧ (xs ≠ [] → ys = [] → Q (.ref a) H) ∧ (xs ≠ [] → ys ≠ [] → NewZ H (xs ++ ys) Q)
theorem op_catZ : OpR X (binaryOp .Add) (rCatZ X.K) := by
  rintro pins s σ H _ _ v u Q I rx ry ⟨l, m, xs, ys, rfl, rfl, hl, hm, hz, q0, q1, q2⟩
  cases rx
  cases ry
  obtain ⟨us, r1, p1, _⟩ := I.tuple hl
  obtain ⟨ws, r2, p2, _⟩ := I.tuple hm
  by_cases hx : xs = []
  · subst hx
    cases r1
    exact cat_tup0 p1 p2 ⟨.ref m, H, I, rfl, q0 rfl⟩
  · refine HT.cat_tup p1 p2 (mt r1.nil_iff.mp hx) (fun z => ⟨.ref l, H, I, rfl, q1 hx (r2.nil_iff.mp z)⟩) (fun z => ?_) (by rw [← r1.length, ← r2.length]; exact hz)
    exact endZ (tk := s.toks) I (r1.append r2) rfl (by simpa using hz) (q2 hx (mt r2.nil_iff.mpr z))
def rSlZ (K : PySem.W.Frag) : V → Option Int → Option Int → Hp → VK → Prop := fun x lo hi H Q => ∃ a xs, x = .ref a ∧ SqT K H a xs ∧
  (HT.sIx xs.length 0 lo = 0 ∧ HT.sIx xs.length xs.length hi = xs.length → Q (.ref a) H) ∧ (¬ (HT.sIx xs.length 0 lo = 0 ∧ HT.sIx xs.length xs.length hi = xs.length) → NewZ H (cutV xs lo hi) Q)
theorem sl_tupZ : SlR X (rSlZ X.K) := by
  rintro pins s σ H _ v vl vu lo hi sl Q I rx hs pl pu ⟨l, xs, rfl, hl, q1, q2⟩
  cases rx
  obtain ⟨us, r, ht, hz⟩ := I.tuple hl
  have hn : us.toArray.size = xs.length := by rw [List.size_toArray, ← r.length]
  refine ⟨"tuple", _, PyProof.Rows.slot_tuple_getitem.lookup, ht.typeIs, ?_⟩
  by_cases hw : HT.sIx xs.length 0 lo = 0 ∧ HT.sIx xs.length xs.length hi = xs.length
  · exact getItem_tuple_whole ht hs pl pu (hn ▸ hw) ⟨.ref l, H, I, rfl, q1 hw⟩
  · refine HT.getItem_tuple_cut ht hs pl pu (hn ▸ hw) ?_ (hn ▸ hz)
    rw [hn]
    exact endZ (tk := s.toks) I ((r.drop _).take _) rfl (Nat.le_trans (cutV_length xs lo hi) hz) (q2 hw)
/-- xs * k, k from 2 on -/
def rRepZ (K : PySem.W.Frag) : R2 := fun x y H Q => ∃ l k xs, x = .ref l ∧ y = .int k ∧ SqT K H l xs ∧ xs ≠ [] ∧ 2 ≤ k ∧ k ≤ 1000 ∧ xs.length ≤ 1000 ∧ NewZ H (List.replicate k.toNat xs).flatten Q
theorem op_repZ : OpR X (binaryOp .Mult) (rRepZ X.K) := by
  rintro pins s σ H _ _ v u Q I rx ry ⟨l, k, xs, rfl, rfl, hT, hne, h1, h2, hz, q⟩
  cases rx
  obtain ⟨t, rfl⟩ := ry
  obtain ⟨us, r, ⟨⟨cls, dd, data, sl⟩, ho, hc, n, hd⟩, _⟩ := I.tuple hT
  simp only at hc hd
  subst hc hd
  have hl : us.toArray.size = xs.length := by rw [List.size_toArray, ← r.length]
  have e0 : us.toArray.isEmpty = false := by
    cases us with
    | nil => exact absurd (r.nil_iff.mp rfl) hne
    | cons _ _ => rfl
  have big : k.toNat * xs.length ≤ 1000 * 1000 := Nat.mul_le_mul (by omega) hz
  have bigI : ((us.toArray.size : Nat) : Int) * k ≤ 1000000 := by
    have z : ((xs.length * k.toNat : Nat) : Int) ≤ 1000000 := by rw [Nat.mul_comm]; omega
    rw [hl]
    rw [Int.natCast_mul, Int.toNat_of_nonneg (by omega)] at z
    exact z
  have fl : (List.replicate k.toNat us).flatten.length ≤ sizeLine := by
    rw [PyProof.Rows.lm_len_rep_flat, ← r.length, sizeLine_eq]
    omega
  have c0 : (decide (k < -(2 ^ 63)) || decide (k ≥ 2 ^ 63)) = false := by
    rw [Bool.or_eq_false_iff]
    exact ⟨decide_eq_false (by omega), decide_eq_false (by omega)⟩
  have c1 : (us.toArray.isEmpty || k == 1) = false := by rw [e0, Bool.false_or, beq_eq_false_iff_ne]; omega
  have c2 : (decide (k ≤ 0) || us.toArray.isEmpty) = false := by rw [e0, Bool.or_false]; exact decide_eq_false (by omega)
  have c4 : Builtin.Tuple.tupleTooMany (((us.toArray.size : Nat) : Int) * k) = false := decide_eq_false (by rw [sizeLine_eq]; omega)
  refine wpAny_binaryOp_repeat_ref (T := "tuple") (U := "int") (by decide) ⟨_, ho, rfl⟩ (fun _ => typeIs_int _ k t) noFill_tuple_mul F.fills_int_mul F.slot_int_rmul repeat_tuple F.slot_int_index.lookup ?_
  refine call_meets F.slot_int_rmul (typeIs_int s k t) F.entry_int_rmul (F.args_int_rmul_2 _ _) (int_rmul_tuple k t l us.toArray n dd sl) ⟨ho, rfl, ⟨_, ho, rfl⟩, ?_⟩
  refine call_meets F.slot_tuple_mul ⟨_, ho, rfl⟩ F.entry_tuple_mul (F.args_tuple_mul_2 _ _) (tuple_mulW l us.toArray n dd sl k t c0 c1 c2 (by omega) c4 ?_) ⟨ho, ?_⟩
  · rw [size_rep, List.size_toArray]
    exact fl
  · rw [size_rep]
    exact endZ (tk := s.toks) I (r.rep k.toNat) rfl (by rw [PyProof.Rows.lm_len_rep_flat, sizeLine_eq]; omega) q
end
/-- a dict whose keys are tuples of whole numbers and texts: the keys, where they stand, the values -/
abbrev DicE (P : Program) (w : World) (a : Addr) (xs : List (List Key × Addr × Value)) : HO := .ext fun h => ((a == sysModules) = false ∧ xs.length ≤ sizeLine) ∧
  ∃ o es ep, h.get? a = some o ∧ o.ExactDict ∧ o.data = .dict es ep ∧ es.toList = xs.map (entryOfKey (tupleKind (mixKind P w))) ∧ (xs.map (·.1)).Nodup
end DL

namespace DL
open PySem PySem.Spec PyProof.Rows L2
open Evl (Ex)

/-- a list that stays as it is: tracked, known, or written at the top -/
def RdL (K : PySem.W.Frag) (F : Hp) (a : Addr) (xs : List V) : Prop :=
  Rd F a (.lst xs) ∨ ∃ (its : List Value) (n : Nat), K.lookup a = some { cls := .type "list", data := .seq its.toArray n } ∧ Vals xs its ∧ its.length ≤ sizeLine
theorem RdL.mono {K : PySem.W.Frag} {F F' : Hp} {a : Addr} {xs : List V} (e : Ex F F') (h : RdL K F a xs) : RdL K F' a xs := h.imp (Evl.ex_rd e) id
theorem RdL.of {K : PySem.W.Frag} {F : Hp} {a : Addr} {xs : List V} (h : F a = some (.lst xs)) : RdL K F a xs := .inl (.inl h)
theorem RdL.sq {K : PySem.W.Frag} {F : Hp} {a : Addr} {xs : List V} (h : RdL K F a xs) : SqL K F a xs := by
  rcases h with h | ⟨its, n, h1, h2, h3⟩
  · exact .inl h
  · exact .inr ⟨_, its.toArray, n, h1, rfl, rfl, rfl, by simpa using h3, by simpa using h2⟩
theorem RdL.obj {X : Cx} {pins : List (Addr × Obj)} {σ : L2.St} {H : Hp} {s : Shared} {a : Addr} {xs : List V} (h : RdL X.K H a xs) (I : Inv X pins σ H s) : xs.length ≤ sizeLine ∧ ∃ (its : List Value) (n : Nat), Vals xs its ∧ s.heap.get? a = some { cls := .type "list", data := .seq its.toArray n } := by
  rcases h with h | ⟨its, n, h1, h2, h3⟩
  · exact h.ok I.hok
  · exact ⟨by rw [h2.length]; exact h3, its, n, h2, I.kIn a _ h1⟩
structure XcF (K : PySem.W.Frag) (c : Str) : Prop where
  cls : ExcC K (He.ga K c)
  made : PySem.W.excIn K (He.ga K c) exBases "ValueError.__new__" = true
  kp : PySem.W.keepIn K (.ref (He.ga K c)) = true
  ty : PySem.W.typeIn K (.ref (He.ga K c)) = some (.type "type")
  exm : PySem.W.exmOne K (.ref (He.ga K c)) (.ref (He.ga K "PrizeError")) = some true
  ve : PySem.W.kitOne K (.ref (He.ga K c)) (.type "ValueError") = some true
  six : ∀ T ∈ exTypes, PySem.W.kitOne K (.ref (He.ga K c)) (.type T) = some false
  own : ∀ d ∈ exNames, PySem.W.kitOne K (.ref (He.ga K c)) (.ref (He.ga K d)) = some (exSub c d)
theorem xcB_ok {K : PySem.W.Frag} {c : Str} (h : xcB K c = true) : XcF K c := by
  unfold xcB at h
  simp only [Bool.and_eq_true, decide_eq_true_eq, List.all_eq_true] at h
  obtain ⟨a1, a2, a3, a4, a5, a6, a7, a8, a9, b1, b2, b3, b4, b5, b6⟩ := h
  exact ⟨⟨a1, a2, a3, a4, a5, a6, a7, a8⟩, a9, b1, b2, b3, b4, b5, b6⟩
/-- an exception's object -/
def ExcAt (C a : Addr) : Heap → Prop := fun h => ∃ oe vs, h.get? a = some oe ∧ oe.cls = .ref C ∧ oe.dict = none ∧ oe.data = .fields vs ∧ vs[2]? = some .none
/-- a tuple that stays, whose object has no dict -/
def TqT (K : PySem.W.Frag) (F : Hp) (a : Addr) (xs : List V) : Prop := (∃ o, F a = some (.frz o (.tup xs)) ∧ PlT o) ∨
  ∃ (o : Obj) (its : Array Value) (n : Nat), K.lookup a = some o ∧ PlT o ∧ o.data = .seq its n ∧ its.size ≤ sizeLine ∧ Vals xs its.toList
theorem TqT.sq {K : PySem.W.Frag} {F : Hp} {a : Addr} {xs : List V} (h : TqT K F a xs) : SqT K F a xs := by
  rcases h with ⟨o, h, _⟩ | ⟨o, its, n, h1, h2, h3, h4, h5⟩
  · exact .inl (.inr ⟨o, h⟩)
  · exact .inr ⟨o, its, n, h1, h2.1, h3, h4, h5⟩
theorem TqT.mono {K : PySem.W.Frag} {F F' : Hp} {a : Addr} {xs : List V} (e : Ex F F') (h : TqT K F a xs) : TqT K F' a xs := h.imp (fun ⟨o, h, p⟩ => ⟨o, e _ _ h, p⟩) id
/-- a dict whose keys are whole numbers and texts -/
abbrev KkE (P : Program) (w : World) (a : Addr) (vs : List (Key × V)) : HO := .ext fun h => vs.length ≤ sizeLine ∧ (a == sysModules) = false ∧ ∃ us, KV vs us ∧ h.DictOf (mixKind P w) a us
/-- a list of one's own, within another one or holding such -/
abbrev LsE (a : Addr) (vs : List V) : HO := .ext fun h => vs.length ≤ sizeLine ∧ ∃ (its : List Value) (n : Nat), Vals vs its ∧ h.get? a = some { cls := .type "list", data := .seq its.toArray n }
mutual
inductive DR (K : PySem.W.Frag) (F : Hp) : V → PyData → Prop
  | non : DR K F .non .none
  | bl (b : Bool) : DR K F (.bl b) (.bool b)
  | int (i : Int) : DR K F (.int i) (.int i)
  | str (x : Str) : DR K F (.str x) (.str x)
  | lst {a : Addr} {xs : List V} {ds : List PyData} : RdL K F a xs → DRs K F xs ds → DR K F (.ref a) (.list ds)
  | tup {a : Addr} {xs : List V} {ds : List PyData} : TqT K F a xs → DRs K F xs ds → DR K F (.ref a) (.tuple ds)
  /-- a dict that stays, its keys whole numbers and texts -/
  | dct {a : Addr} {o : Obj} {vs : List (Key × V)} {ds : List (PyData × PyData)} : F a = some (.frz o (.dK vs)) → DM K F vs ds → DR K F (.ref a) (.dict ds)
  /-- a list that a def made and may still change -/
  | row {a : Addr} {xs : List V} {ds : List PyData} : F a = some (.lst xs) → DRs K F xs ds → DR K F (.ref a) (.dict [(.none, .list ds)])
  /-- a caught refusal of the class c -/
  | exc {a : Addr} {c : Str} : F a = some (.ext (ExcAt (He.ga K c) a)) → XcF K c → DR K F (.ref a) (.dict [(.none, .str c)])
inductive DRs (K : PySem.W.Frag) (F : Hp) : List V → List PyData → Prop
  | nil : DRs K F [] []
  | cons {v : V} {vs : List V} {d : PyData} {ds : List PyData} : DR K F v d → DRs K F vs ds → DRs K F (v :: vs) (d :: ds)
inductive DM (K : PySem.W.Frag) (F : Hp) : List (Key × V) → List (PyData × PyData) → Prop
  | nil : DM K F [] []
  | int {n : Int} {v : V} {vs : List (Key × V)} {d : PyData} {ds : List (PyData × PyData)} : DR K F v d → DM K F vs ds → DM K F ((.inl n, v) :: vs) ((.int n, d) :: ds)
  | str {x : Str} {v : V} {vs : List (Key × V)} {d : PyData} {ds : List (PyData × PyData)} : DR K F v d → DM K F vs ds → DM K F ((.inr x, v) :: vs) ((.str x, d) :: ds)
end

section
variable {K : PySem.W.Frag} {F F' H H' : Hp}
mutual
theorem DR.mono (e : Ex F F') : ∀ {v : V} {d : PyData}, DR K F v d → DR K F' v d
  | _, _, .non => .non
  | _, _, .bl b => .bl b
  | _, _, .int i => .int i
  | _, _, .str x => .str x
  | _, _, .lst h r => .lst (h.mono e) (DRs.mono e r)
  | _, _, .tup h r => .tup (h.mono e) (DRs.mono e r)
  | _, _, .dct h m => .dct (e _ _ h) (DM.mono e m)
  | _, _, .row h r => .row (e _ _ h) (DRs.mono e r)
  | _, _, .exc h x => .exc (e _ _ h) x
theorem DRs.mono (e : Ex F F') : ∀ {v : List V} {d : List PyData}, DRs K F v d → DRs K F' v d
  | _, _, .nil => .nil
  | _, _, .cons a b => .cons (DR.mono e a) (DRs.mono e b)
theorem DM.mono (e : Ex F F') : ∀ {vs : List (Key × V)} {ds : List (PyData × PyData)}, DM K F vs ds → DM K F' vs ds
  | _, _, .nil => .nil
  | _, _, .int a b => .int (DR.mono e a) (DM.mono e b)
  | _, _, .str a b => .str (DR.mono e a) (DM.mono e b)
end
theorem DM.length : ∀ {vs : List (Key × V)} {ds : List (PyData × PyData)}, DM K F vs ds → vs.length = ds.length
  | _, _, .nil => rfl
  | _, _, .int _ b => congrArg (· + 1) b.length
  | _, _, .str _ b => congrArg (· + 1) b.length
theorem DRs.length : ∀ {vs : List V} {ds : List PyData}, DRs K F vs ds → vs.length = ds.length
  | _, _, .nil => rfl
  | _, _, .cons _ b => congrArg (· + 1) b.length
theorem DRs.get : ∀ {vs : List V} {ds : List PyData} {i : Nat} {d : PyData}, DRs K F vs ds → ds[i]? = some d → ∃ v, vs[i]? = some v ∧ DR K F v d
  | _, _, _, _, .nil, h => by simp at h
  | _, _, 0, _, .cons a b, h => by simp at h; subst h; exact ⟨_, rfl, a⟩
  | _, _, i + 1, d, .cons a b, h => by
    obtain ⟨v, h1, h2⟩ := b.get (i := i) (d := d) (by simpa using h)
    exact ⟨v, by simpa using h1, h2⟩
theorem DRs.append : ∀ {vs ws : List V} {ds es : List PyData}, DRs K F vs ds → DRs K F ws es → DRs K F (vs ++ ws) (ds ++ es)
  | _, _, _, _, .nil, h => h
  | _, _, _, _, .cons a b, h => .cons a (b.append h)
theorem DRs.take : ∀ {vs : List V} {ds : List PyData} (n : Nat), DRs K F vs ds → DRs K F (vs.take n) (ds.take n)
  | _, _, 0, _ => .nil
  | _, _, _ + 1, .nil => .nil
  | _, _, n + 1, .cons a b => .cons a (b.take n)
theorem DRs.drop : ∀ {vs : List V} {ds : List PyData} (n : Nat), DRs K F vs ds → DRs K F (vs.drop n) (ds.drop n)
  | _, _, 0, h => h
  | _, _, _ + 1, .nil => .nil
  | _, _, n + 1, .cons a b => b.drop n
theorem DRs.set : ∀ {vs : List V} {ds : List PyData} (n : Nat) {v : V} {d : PyData}, DR K F v d → DRs K F vs ds → DRs K F (vs.set n v) (ds.set n d)
  | _, _, _, _, _, _, .nil => .nil
  | _, _, 0, _, _, h, .cons a b => .cons h b
  | _, _, n + 1, _, _, h, .cons a b => .cons a (b.set n h)
theorem DRs.one {v : V} {d : PyData} (h : DR K F v d) : DRs K F [v] [d] := .cons h .nil
theorem DRs.inv1 {vs : List V} {d : PyData} (h : DRs K F vs [d]) : ∃ v, vs = [v] ∧ DR K F v d := by
  cases h with
  | cons a b => cases b; exact ⟨_, rfl, a⟩
theorem DRs.inv2 {vs : List V} {d e : PyData} (h : DRs K F vs [d, e]) : ∃ v w, vs = [v, w] ∧ DR K F v d ∧ DR K F w e := by
  cases h with
  | cons a b =>
    obtain ⟨w, rfl, r⟩ := b.inv1
    exact ⟨_, w, rfl, a, r⟩
theorem DR.inv_int {v : V} {i : Int} (h : DR K F v (.int i)) : v = .int i := by cases h; rfl
theorem DR.inv_bool {v : V} {i : Bool} (h : DR K F v (.bool i)) : v = .bl i := by cases h; rfl
theorem DR.inv_str {v : V} {i : Str} (h : DR K F v (.str i)) : v = .str i := by cases h; rfl
theorem DR.inv_tup {v : V} {ds : List PyData} (h : DR K F v (.tuple ds)) : ∃ a xs, v = .ref a ∧ SqT K F a xs ∧ DRs K F xs ds := by cases h with | tup a b => exact ⟨_, _, rfl, a.sq, b⟩
theorem DR.inv_lst {v : V} {ds : List PyData} (h : DR K F v (.list ds)) : ∃ a xs, v = .ref a ∧ RdL K F a xs ∧ DRs K F xs ds := by cases h with | lst a b => exact ⟨_, _, rfl, a, b⟩
end

/-- things of one's own: dicts whose keys are tuples of whole numbers and texts; whose keys are whole numbers and texts; lists of lists -/
inductive Own where
  | tk (kvs : List (List Key × PyData))
  | kk (kvs : List (PyData × PyData))
  | mt (rows : List (List PyData))
inductive SD where
  | un
  | dat (d : PyData)
  | cel (p : Bool) (xs : List PyData)
  /-- a thing of one's own -/
  | dic (w : Own)
/-- what is fixed for a def's whole run -/
structure Zx (T : List (Addr × Str)) where
  F0 : Hp
  H0 : Hp
  A0 : Nat → Option Addr
  Pr0 : Hp
  P : Program
  w : World
structure Gx (Z : Zx T) where
  Pr : Hp
  px : Ex Z.Pr0 Pr
  pl : ∀ a o, Pr a = some o → ∀ ps, o ≠ .tbl ps
variable {T : List (PySem.Addr × PySem.Str)} {Z : Zx T}
def Gx.hid (g : Gx Z) (D : Addr) (vs : List V) (h : g.Pr D = none) : Gx Z := ⟨upd g.Pr D (.lst vs), fun a o e => by
  have q := g.px a o e
  have ne : a ≠ D := fun z => by rw [z, h] at q; cases q
  rw [upd_ne ne]
  exact q, fun a o e => by
  by_cases z : a = D
  · subst z
    rw [upd_same] at e
    cases e
    exact fun _ y => by cases y
  · rw [upd_ne z] at e
    exact g.pl a o e⟩
abbrev Gx.F0 (_ : Gx Z) : Hp := Z.F0
abbrev Gx.H0 (_ : Gx Z) : Hp := Z.H0
abbrev Gx.A0 (_ : Gx Z) : Nat → Option Addr := Z.A0
/-- the dict's keys and values as they stand -/
def DicR (K : PySem.W.Frag) (F : Hp) (kvs : List (List Key × PyData)) (xs : List (List Key × Addr × Value)) : Prop :=
  Paired (fun p x => p.1 = x.1 ∧ TqT K F x.2.1 (p.1.map kV) ∧ ∃ v, DR K F v p.2 ∧ RelV v x.2.2) kvs xs
theorem DicR.mono {K : PySem.W.Frag} {F F' : Hp} (e : Ex F F') {kvs : List (List Key × PyData)} {xs : List (List Key × Addr × Value)} (h : DicR K F kvs xs) : DicR K F' kvs xs :=
  Paired.mapP h fun _ _ ⟨h1, h2, v, h3, h4⟩ => ⟨h1, h2.mono e, v, h3.mono e, h4⟩
/-- what stands for such a thing at a, with further places bs -/
def OwnR (K : PySem.W.Frag) (Z : Zx T) (F H : Hp) (a : Addr) (bs : List Addr) : Own → Prop
  | .tk kvs => bs = [] ∧ ∃ xs, H a = some (DicE Z.P Z.w a xs) ∧ DicR K F kvs xs
  | .kk ds => bs = [] ∧ ∃ vs, H a = some (KkE Z.P Z.w a vs) ∧ DM K F vs ds
  | .mt rows => (H a = some (LsE a (bs.map .ref)) ∧ (a :: bs).Nodup) ∧ Paired (fun b row => ∃ us, H b = some (LsE b us) ∧ DRs K F us row) bs rows
structure OwnAt (K : PySem.W.Frag) (g : Gx Z) (F H : Hp) (a : Addr) (bs : List Addr) (w : Own) : Prop where
  rel : OwnR K Z F H a bs w
  out : ∀ x ∈ a :: bs, F x = none ∧ g.H0 x = none ∧ g.Pr x = none ∧ ∃ φ, H x = some (.ext φ)
structure DicsB (K : PySem.W.Frag) (g : Gx Z) (F : Hp) (env : List SD) (σ : L2.St) (H : Hp) (B : Nat → List Addr) : Prop where
  at_ : ∀ (i : Nat) (w : Own), env[i]? = some (.dic w) → ∃ a, σ[i]? = some (some (.ref a)) ∧ OwnAt K g F H a (B i) w
  sep : ∀ (i j : Nat) (w w' : Own) (a b : Addr), env[i]? = some (.dic w) → env[j]? = some (.dic w') → σ[i]? = some (some (.ref a)) → σ[j]? = some (some (.ref b)) → i ≠ j → ∀ x ∈ a :: B i, x ∉ b :: B j
def DicsOk (K : PySem.W.Frag) (g : Gx Z) (F : Hp) (env : List SD) (σ : L2.St) (H : Hp) : Prop := ∃ B, DicsB K g F env σ H B
section
variable {K : PySem.W.Frag} {g g' : Gx Z} {F F' : Hp} {env : List SD} {σ : L2.St} {H H' : Hp}
theorem OwnR.keep {a : Addr} {bs : List Addr} {w : Own} (r : OwnR K Z F H a bs w) (e : Ex F F') (hk : ∀ x ∈ a :: bs, H' x = H x) : OwnR K Z F' H' a bs w := by
  cases w with
  | tk kvs =>
    obtain ⟨rfl, xs, h1, h2⟩ := r
    exact ⟨rfl, xs, (hk a List.mem_cons_self).trans h1, h2.mono e⟩
  | kk ds =>
    obtain ⟨rfl, xs, h1, h2⟩ := r
    exact ⟨rfl, xs, (hk a List.mem_cons_self).trans h1, h2.mono e⟩
  | mt rows =>
    obtain ⟨⟨h1, h2⟩, h3⟩ := r
    refine ⟨⟨(hk a List.mem_cons_self).trans h1, h2⟩, ?_⟩
    have hk2 : ∀ x ∈ bs, H' x = H x := fun x hx => hk x (List.mem_cons_of_mem _ hx)
    clear h1 h2 hk
    induction h3 with
    | nil => exact .nil
    | cons h t ih =>
      obtain ⟨us, z1, z2⟩ := h
      exact .cons ⟨us, (hk2 _ List.mem_cons_self).trans z1, z2.mono e⟩ (ih fun x hx => hk2 x (List.mem_cons_of_mem _ hx))
theorem OwnR.castZ {Z' : Zx T} (hP : Z.P = Z'.P) (hW : Z.w = Z'.w) {a : Addr} {bs : List Addr} {w : Own} (r : OwnR K Z F H a bs w) : OwnR K Z' F H a bs w := by
  cases w with
  | tk kvs =>
    obtain ⟨rfl, xs, h1, h2⟩ := r
    exact ⟨rfl, xs, by rw [← hP, ← hW]; exact h1, h2⟩
  | kk ds =>
    obtain ⟨rfl, xs, h1, h2⟩ := r
    exact ⟨rfl, xs, by rw [← hP, ← hW]; exact h1, h2⟩
  | mt rows => exact r
theorem DicsOk.castZ {Z' : Zx T} {g2 : Gx Z'} (hP : Z.P = Z'.P) (hW : Z.w = Z'.w) (h0 : ∀ x, Z.H0 x = none → Z'.H0 x = none) (hp : ∀ x, g.Pr x = none → g2.Pr x = none) (d : DicsOk K g F env σ H) : DicsOk K g2 F env σ H := by
  obtain ⟨B, h1, h2⟩ := d
  refine ⟨B, fun i w e => let ⟨a, z1, z2⟩ := h1 i w e; ⟨a, z1, z2.rel.castZ hP hW, fun x hx => ?_⟩, h2⟩
  obtain ⟨y1, y2, y3, y4⟩ := z2.out x hx
  exact ⟨y1, h0 x y2, hp x y3, y4⟩
theorem OwnAt.keep {a : Addr} {bs : List Addr} {w : Own} (r : OwnAt K g F H a bs w) (e : Ex F F') (hp : ∀ x φ, H x = some (.ext φ) → g.Pr x = none → g'.Pr x = none) (hk : ∀ x φ, H x = some (.ext φ) → F x = none → F' x = none ∧ H' x = H x) : OwnAt K g' F' H' a bs w where
  rel := r.rel.keep e fun x hx => by
    obtain ⟨z1, _, _, φ, z4⟩ := r.out x hx
    exact (hk x φ z4 z1).2
  out := fun x hx => by
    obtain ⟨z1, z2, z3, φ, z4⟩ := r.out x hx
    obtain ⟨y1, y2⟩ := hk x φ z4 z1
    exact ⟨y1, z2, hp x φ z4 z3, φ, y2.trans z4⟩
theorem DicsB.keep {B : Nat → List Addr} (d : DicsB K g F env σ H B) (e : Ex F F') (hp : ∀ x φ, H x = some (.ext φ) → g.Pr x = none → g'.Pr x = none) (hk : ∀ x φ, H x = some (.ext φ) → F x = none → F' x = none ∧ H' x = H x) : DicsB K g' F' env σ H' B :=
  ⟨fun i w hw => let ⟨a, z1, z2⟩ := d.at_ i w hw; ⟨a, z1, z2.keep e hp hk⟩, d.sep⟩
theorem DicsOk.keep (d : DicsOk K g F env σ H) (e : Ex F F') (hp : ∀ x φ, H x = some (.ext φ) → g.Pr x = none → g'.Pr x = none) (hk : ∀ x φ, H x = some (.ext φ) → F x = none → F' x = none ∧ H' x = H x) : DicsOk K g' F' env σ H' := by
  obtain ⟨B, h⟩ := d
  exact ⟨B, h.keep e hp hk⟩
/-- no thing of one's own stands here -/
theorem DicsB.there {B : Nat → List Addr} (d : DicsB K g F env σ H B) {j : Nat} {w : Own} {b x : Addr} (h1 : env[j]? = some (.dic w)) (h2 : σ[j]? = some (some (.ref b))) (hx : x ∈ b :: B j) : F x = none ∧ g.H0 x = none ∧ g.Pr x = none ∧ ∃ φ, H x = some (.ext φ) := by
  obtain ⟨a, z1, z2⟩ := d.at_ j w h1
  rw [h2] at z1
  cases z1
  exact z2.out x hx
theorem DicsOk.none (h : ∀ (i : Nat) (w : Own), env[i]? ≠ some (.dic w)) : DicsOk K g F env σ H := ⟨fun _ => [], fun i w e => absurd e (h i w), fun i _ w _ _ _ e => absurd e (h i w)⟩
theorem DicsOk.setE (d : DicsOk K g F env σ H) {i : Nat} {x : SD} (hx : ∀ w, x ≠ .dic w) : DicsOk K g F (env.set i x) σ H := by
  have old : ∀ {j : Nat} {w : Own}, (env.set i x)[j]? = some (.dic w) → env[j]? = some (.dic w) := fun {j w} h => by
    rw [List.getElem?_set] at h
    by_cases e : i = j
    · rw [if_pos e] at h
      split at h
      · exact absurd (Option.some.inj h) (hx w)
      · cases h
    · rwa [if_neg e] at h
  obtain ⟨B, h1, h2⟩ := d
  exact ⟨B, fun j w h => h1 j w (old h), fun j l w w' a b e1 e2 => h2 j l w w' a b (old e1) (old e2)⟩
theorem DicsOk.set (d : DicsOk K g F env σ H) {i : Nat} {x : SD} {v : Option V} (hx : ∀ w, x ≠ .dic w) : DicsOk K g F (env.set i x) (σ.set i v) H := by
  have ne : ∀ {j : Nat} {w : Own}, (env.set i x)[j]? = some (.dic w) → i ≠ j := fun {j w} h e => by
    rw [List.getElem?_set, if_pos e] at h
    split at h
    · exact absurd (Option.some.inj h) (hx w)
    · cases h
  have st : ∀ {j : Nat}, i ≠ j → (σ.set i v)[j]? = σ[j]? := fun n => List.getElem?_set_ne n
  obtain ⟨B, h1, h2⟩ := d.setE (i := i) hx
  exact ⟨B, fun j w h => let ⟨a, z1, z2⟩ := h1 j w h; ⟨a, by rw [st (ne h)]; exact z1, z2⟩, fun j l w w' a b e1 e2 e3 e4 => h2 j l w w' a b e1 e2 (by rw [← st (ne e1)]; exact e3) (by rw [← st (ne e2)]; exact e4)⟩
end
/-- an object that was there: as it was, or a table with more in it -/
def Sty (o : HO) (x : Option HO) : Prop := x = some o ∨ ∃ ps more, o = .tbl ps ∧ x = some (.tbl (ps ++ more))
theorem Sty.same {o : HO} {x : Option HO} (h : Sty o x) (n : ∀ ps, o ≠ .tbl ps) : x = some o := by
  rcases h with h | ⟨ps, _, e, _⟩
  · exact h
  · exact absurd e (n ps)
theorem Sty.lst {vs : List V} {x : Option HO} (h : Sty (.lst vs) x) : x = some (.lst vs) := h.same fun _ z => by cases z
theorem Sty.ext {f : Heap → Prop} {x : Option HO} (h : Sty (.ext f) x) : x = some (.ext f) := h.same fun _ z => by cases z
theorem Sty.there {o : HO} {x : Option HO} (h : Sty o x) : ∃ u, x = some u := by
  rcases h with h | ⟨ps, m, _, h⟩
  · exact ⟨_, h⟩
  · exact ⟨_, h⟩
theorem Sty.trans {o : HO} {x y : Option HO} (h : Sty o x) (k : ∀ u, x = some u → Sty u y) : Sty o y := by
  rcases h with h | ⟨ps, m, e, h⟩
  · exact k _ h
  · rcases k _ h with z | ⟨ps', m', e', z⟩
    · exact .inr ⟨ps, m, e, z⟩
    · cases e'
      exact .inr ⟨ps, m ++ m', e, by rw [z, Array.append_assoc]⟩
/-- what was there stays, but where N says no; the tables are right -/
structure Frm (T : List (Addr × Str)) (H0 : Hp) (N : Addr → Prop) (H : Hp) : Prop where
  stay : ∀ a o, H0 a = some o → N a → Sty o (H a)
  tab : LamX.Tabs T H
section
variable {H0 H H' : Hp} {N N' : Addr → Prop}
theorem Frm.new (f : Frm T H0 N H) {p : Addr} {o : HO} (h : H p = none) : Frm T H0 N (upd H p o) where
  stay := fun a u e n => by
    have z := f.stay a u e n
    obtain ⟨w, hw⟩ := z.there
    rw [upd_ne (ne_of_none hw h)]
    exact z
  tab := f.tab.ext fun b u e => by rw [upd_ne (ne_of_none e h)]; exact e
theorem codeO_lst {c : Addr} {q : Str} {vs : List V} : LamX.CodeO c q ≠ .lst vs := fun z => by
  unfold LamX.CodeO at z
  cases z
theorem Frm.putO (f : Frm T H0 N H) {a : Addr} {o0 o1 : HO} (h : H a = some o0) (t1 : ∀ ps, o0 ≠ .tbl ps) (t2 : ∀ q, o0 ≠ LamX.CodeO a q) (n : ∀ o, H0 a = some o → ¬ N a) : Frm T H0 N (upd H a o1) where
  stay := fun b u e m => by
    have ne : b ≠ a := fun z => by
      subst z
      exact n u e m
    rw [upd_ne ne]
    exact f.stay b u e m
  tab := fun p hp => by
    obtain ⟨ps, h1, h2, h3⟩ := f.tab p hp
    have n1 : p.1 ≠ a := fun z => by rw [z, h] at h1; exact t1 _ (Option.some.inj h1)
    refine ⟨ps, by rw [upd_ne n1]; exact h1, h2, fun pos cv hc => ?_⟩
    obtain ⟨c, e, e2⟩ := h3 pos cv hc
    have n2 : c ≠ a := fun z => by rw [z, h] at e2; exact t2 _ (Option.some.inj e2)
    exact ⟨c, e, by rw [upd_ne n2]; exact e2⟩
theorem Frm.put (f : Frm T H0 N H) {a : Addr} {vs ys : List V} (h : H a = some (.lst vs)) (n : ∀ o, H0 a = some o → ¬ N a) : Frm T H0 N (upd H a (.lst ys)) := f.putO h (fun _ z => by cases z) (fun _ z => codeO_lst z.symm) n
theorem Frm.trans (f : Frm T H0 N H) (g : Frm T H N' H') (n : ∀ a o, H0 a = some o → N a → N' a) : Frm T H0 N H' :=
  ⟨fun a o e m => (f.stay a o e m).trans fun u hu => g.stay a u hu (n a o e m), g.tab⟩
theorem Frm.refl (t : LamX.Tabs T H) : Frm T H N H := ⟨fun _ _ e _ => .inl e, t⟩
theorem Frm.weak (f : Frm T H0 N H) (n : ∀ a o, H0 a = some o → N' a → N a) : Frm T H0 N' H := ⟨fun a o e m => f.stay a o e (n a o e m), f.tab⟩
end
/-- what never changes has grown; no table is among it -/
def OldF (F0 F : Hp) : Prop := Ex F0 F ∧ ∀ a ps, F a ≠ some (.tbl ps)
theorem OldF.new {F0 F : Hp} (h : OldF F0 F) {p : Addr} {o : HO} (hp : F p = none) (ho : ∀ ps, o ≠ .tbl ps) : OldF F0 (upd F p o) :=
  ⟨h.1.trans (Ex.new hp), fun a ps e => by
    by_cases z : a = p
    · subst z
      rw [upd_same] at e
      exact ho ps (Option.some.inj e)
    · rw [upd_ne z] at e
      exact h.2 a ps e⟩
structure Ok (K : PySem.W.Frag) (g : Gx Z) (F : Hp) (env : List SD) (σ : L2.St) (H : Hp) : Prop where
  len : env.length = σ.length
  fh : Ex F H
  dat : ∀ (i : Nat) (d : PyData), env[i]? = some (.dat d) → ∃ v, σ[i]? = some (some v) ∧ DR K F v d
  cel : ∀ (i : Nat) (p : Bool) (xs : List PyData), env[i]? = some (.cel p xs) → ∃ a vs, σ[i]? = some (some (.ref a)) ∧ F a = none ∧ H a = some (.lst vs) ∧ DRs K F vs xs ∧ (p = true → g.A0 i = some a) ∧ (p = false → g.H0 a = none)
  sep : ∀ (i j : Nat) (p q : Bool) (xs ys : List PyData) (a : Addr), env[i]? = some (.cel p xs) → env[j]? = some (.cel q ys) → σ[i]? = some (some (.ref a)) → σ[j]? = some (some (.ref a)) → i = j
  pin : ∀ (i : Nat) (a : Addr), g.A0 i = some a → ∃ xs, env[i]? = some (.cel true xs)
  frame : Frm T g.H0 (fun a => ∀ i, g.A0 i ≠ some a) H
  newF : ∀ (a : Addr) (o : HO), F a = some o → g.F0 a = some o ∨ g.H0 a = none
  oldF : OldF g.F0 F
  prot : ∀ (a : Addr) (o : HO), g.Pr a = some o → H a = some o ∧ F a = none ∧ ∀ (j : Nat) (p : Bool) (ys : List PyData), env[j]? = some (.cel p ys) → σ[j]? ≠ some (some (.ref a))
  dic : DicsOk K g F env σ H
section
variable {K : PySem.W.Frag} {g : Gx Z} {F F' : Hp} {env : List SD} {σ : L2.St} {H : Hp}

theorem Ok.fresh0 (k : Ok K g F env σ H) {p : Addr} (h : H p = none) : g.H0 p = none := by
  cases e : g.H0 p with
  | none => rfl
  | some o =>
    by_cases q : ∃ i, g.A0 i = some p
    · obtain ⟨i, hi⟩ := q
      obtain ⟨xs, hx⟩ := k.pin i p hi
      obtain ⟨a, vs, _, _, h2, _, h3, _⟩ := k.cel i true xs hx
      have h3 := h3 rfl
      rw [hi] at h3
      cases h3
      rw [h] at h2
      cases h2
    · obtain ⟨u, z⟩ := (k.frame.stay p o e fun i hi => q ⟨i, hi⟩).there
      rw [h] at z
      cases z
theorem fnone (e : Ex F H) {p : Addr} (h : H p = none) : F p = none := by
  cases q : F p with
  | none => rfl
  | some o =>
    rw [e p o q] at h
    cases h
theorem ex_both (e : Ex F H) {p : Addr} {o : HO} (h : H p = none) : Ex (upd F p o) (upd H p o) := fun b u q => by
  by_cases hb : b = p
  · subst hb
    rw [upd_same] at q ⊢
    exact q
  · rw [upd_ne hb] at q ⊢
    exact e b u q
/-- a new thing that never changes -/
theorem Ok.alloc (k : Ok K g F env σ H) {p : Addr} {o : HO} (h : H p = none) (ho : ∀ ps, o ≠ .tbl ps := by intro _ z; cases z) : Ok K g (upd F p o) env σ (upd H p o) where
  len := k.len
  fh := ex_both k.fh h
  dat := fun i d e => by
    obtain ⟨v, h1, h2⟩ := k.dat i d e
    exact ⟨v, h1, h2.mono (Ex.new (fnone k.fh h))⟩
  cel := fun i q xs e => by
    obtain ⟨a, vs, h1, h2, h3, h4, h5⟩ := k.cel i q xs e
    have ne : a ≠ p := ne_of_none h3 h
    exact ⟨a, vs, h1, by rw [upd_ne ne]; exact h2, by rw [upd_ne ne]; exact h3, h4.mono (Ex.new (fnone k.fh h)), h5⟩
  sep := k.sep
  pin := k.pin
  frame := k.frame.new h
  newF := fun a u e => by
    by_cases hb : a = p
    · subst hb
      exact .inr (k.fresh0 h)
    · rw [upd_ne hb] at e
      exact k.newF a u e
  oldF := k.oldF.new (fnone k.fh h) ho
  prot := fun a u e => by
    obtain ⟨z1, z2, z3⟩ := k.prot a u e
    have ne : a ≠ p := ne_of_none z1 h
    exact ⟨by rw [upd_ne ne]; exact z1, by rw [upd_ne ne]; exact z2, z3⟩
  dic := k.dic.keep (Ex.new (fnone k.fh h)) (fun _ _ _ z => z) fun a _ h1 h2 => by
    have ne : a ≠ p := ne_of_none h1 h
    exact ⟨by rw [upd_ne ne]; exact h2, upd_ne ne⟩
/-- a new thing of no name yet -/
theorem Ok.extra (k : Ok K g F env σ H) {p : Addr} {o : HO} (h : H p = none) : Ok K g F env σ (upd H p o) where
  len := k.len
  fh := fun a u e => by
    have q := k.fh a u e
    rw [upd_ne (ne_of_none q h)]
    exact q
  dat := k.dat
  cel := fun i q xs e => by
    obtain ⟨a, vs, h1, h2, h3, h4, h5⟩ := k.cel i q xs e
    have ne : a ≠ p := ne_of_none h3 h
    exact ⟨a, vs, h1, h2, by rw [upd_ne ne]; exact h3, h4, h5⟩
  sep := k.sep
  pin := k.pin
  frame := k.frame.new h
  newF := k.newF
  oldF := k.oldF
  prot := fun a u e => by
    obtain ⟨z1, z2, z3⟩ := k.prot a u e
    have ne : a ≠ p := ne_of_none z1 h
    exact ⟨by rw [upd_ne ne]; exact z1, z2, z3⟩
  dic := k.dic.keep (Ex.refl F) (fun _ _ _ z => z) fun a xs h1 h2 => ⟨h2, upd_ne (ne_of_none h1 h)⟩
theorem get_set {α : Type} {l : List α} {i j : Nat} {x y : α} (h : (l.set i x)[j]? = some y) : (i = j ∧ y = x) ∨ (i ≠ j ∧ l[j]? = some y) := by
  rw [List.getElem?_set] at h
  by_cases e : i = j
  · rw [if_pos e] at h
    split at h
    · exact .inl ⟨e, (Option.some.inj h).symm⟩
    · cases h
  · rw [if_neg e] at h
    exact .inr ⟨e, h⟩
theorem set_ne {α : Type} {l : List α} {i j : Nat} {x : α} (h : i ≠ j) : (l.set i x)[j]? = l[j]? := List.getElem?_set_ne h
theorem set_eq {α : Type} {l : List α} {i : Nat} {x y : α} (h : l[i]? = some y) : (l.set i x)[i]? = some x := by
  obtain ⟨h1, _⟩ := List.getElem?_eq_some_iff.mp h
  exact List.getElem?_set_self h1
/-- a slot that is no parameter's cell -/
def NoPar (env : List SD) (i : Nat) : Prop := ∀ xs, env[i]? ≠ some (.cel true xs)
/-- a name gets a datum -/
theorem Ok.setD (k : Ok K g F env σ H) {i : Nat} {d : PyData} {v : V} (hp : NoPar env i) (h : DR K F v d) : Ok K g F (env.set i (.dat d)) (σ.set i (some v)) H where
  len := by simp [k.len]
  fh := k.fh
  dat := fun j e hj => by
    rcases get_set hj with ⟨rfl, q⟩ | ⟨n, q⟩
    · cases q
      have hl : i < σ.length := by
        obtain ⟨h1, _⟩ := List.getElem?_eq_some_iff.mp hj
        rw [List.length_set, k.len] at h1
        exact h1
      exact ⟨v, List.getElem?_set_self hl, h⟩
    · rw [set_ne n]
      exact k.dat j e q
  cel := fun j q xs hj => by
    rcases get_set hj with ⟨_, q⟩ | ⟨n, q⟩
    · cases q
    · rw [set_ne n]
      exact k.cel j _ xs q
  sep := fun a b p q xs ys c h1 h2 h3 h4 => by
    rcases get_set h1 with ⟨_, e⟩ | ⟨n1, e1⟩
    · cases e
    rcases get_set h2 with ⟨_, e⟩ | ⟨n2, e2⟩
    · cases e
    rw [set_ne n1] at h3
    rw [set_ne n2] at h4
    exact k.sep a b p q xs ys c e1 e2 h3 h4
  pin := fun j a e => by
    obtain ⟨xs, q⟩ := k.pin j a e
    have n : i ≠ j := fun z => by subst z; exact hp xs q
    exact ⟨xs, by rw [set_ne n]; exact q⟩
  frame := k.frame
  newF := k.newF
  oldF := k.oldF
  prot := fun a u e => by
    obtain ⟨z1, z2, z3⟩ := k.prot a u e
    refine ⟨z1, z2, fun j p ys hj => ?_⟩
    rcases get_set hj with ⟨_, q⟩ | ⟨n, q⟩
    · cases q
    · rw [set_ne n]
      exact z3 j p ys q
  dic := k.dic.set fun _ z => by cases z
/-- a name gets a new cell of its own -/
theorem Ok.setC (k : Ok K g F env σ H) {i : Nat} {xs : List PyData} {a : Addr} {vs : List V} (hp : NoPar env i) (hF : F a = none) (hH : H a = some (.lst vs)) (h : DRs K F vs xs) (h0 : g.H0 a = none) (hpr : g.Pr a = none)
    (nw : ∀ (j : Nat) (p : Bool) (ys : List PyData), env[j]? = some (.cel p ys) → σ[j]? ≠ some (some (.ref a))) : Ok K g F (env.set i (.cel false xs)) (σ.set i (some (.ref a))) H where
  len := by simp [k.len]
  fh := k.fh
  dat := fun j e hj => by
    rcases get_set hj with ⟨_, q⟩ | ⟨n, q⟩
    · cases q
    · rw [set_ne n]
      exact k.dat j e q
  cel := fun j q ys hj => by
    rcases get_set hj with ⟨rfl, q⟩ | ⟨n, q⟩
    · cases q
      have hl : i < σ.length := by
        obtain ⟨h1, _⟩ := List.getElem?_eq_some_iff.mp hj
        rw [List.length_set, k.len] at h1
        exact h1
      exact ⟨a, vs, List.getElem?_set_self hl, hF, hH, h, (fun z => by cases z), fun _ => h0⟩
    · rw [set_ne n]
      exact k.cel j _ ys q
  sep := fun j l p q us ys c h1 h2 h3 h4 => by
    rcases get_set h1 with ⟨e1, _⟩ | ⟨n1, e1⟩
    · rcases get_set h2 with ⟨e2, _⟩ | ⟨n2, e2⟩
      · exact e1.symm.trans e2
      · rcases get_set h3 with ⟨_, e3⟩ | ⟨n3, _⟩
        · cases e3
          rw [set_ne n2] at h4
          exact absurd h4 (nw l q ys e2)
        · exact absurd e1 n3
    · rcases get_set h2 with ⟨e2, _⟩ | ⟨n2, e2⟩
      · rcases get_set h4 with ⟨_, e3⟩ | ⟨n3, _⟩
        · cases e3
          rw [set_ne n1] at h3
          exact absurd h3 (nw j p us e1)
        · exact absurd e2 n3
      · rw [set_ne n1] at h3
        rw [set_ne n2] at h4
        exact k.sep j l p q us ys c e1 e2 h3 h4
  pin := fun j b e => by
    obtain ⟨ys, q⟩ := k.pin j b e
    have n : i ≠ j := fun z => by subst z; exact hp ys q
    exact ⟨ys, by rw [set_ne n]; exact q⟩
  frame := k.frame
  newF := k.newF
  oldF := k.oldF
  prot := fun b u e => by
    obtain ⟨z1, z2, z3⟩ := k.prot b u e
    refine ⟨z1, z2, fun j p ys hj => ?_⟩
    rcases get_set hj with ⟨rfl, q⟩ | ⟨n, q⟩
    · intro z
      rcases get_set z with ⟨_, y⟩ | ⟨n, _⟩
      · cases y
        rw [hpr] at e
        cases e
      · exact n rfl
    · rw [set_ne n]
      exact z3 j p ys q
  dic := k.dic.set fun _ z => by cases z
/-- a name is forgotten (its slot may hold anything) -/
theorem Ok.setU (k : Ok K g F env σ H) {i : Nat} {o : Option V} (hp : NoPar env i) : Ok K g F (env.set i .un) (σ.set i o) H where
  len := by simp [k.len]
  fh := k.fh
  dat := fun j e hj => by
    rcases get_set hj with ⟨_, q⟩ | ⟨n, q⟩
    · cases q
    · rw [set_ne n]
      exact k.dat j e q
  cel := fun j q ys hj => by
    rcases get_set hj with ⟨_, q⟩ | ⟨n, q⟩
    · cases q
    · rw [set_ne n]
      exact k.cel j _ ys q
  sep := fun a b p q xs ys c h1 h2 h3 h4 => by
    rcases get_set h1 with ⟨_, e⟩ | ⟨n1, e1⟩
    · cases e
    rcases get_set h2 with ⟨_, e⟩ | ⟨n2, e2⟩
    · cases e
    rw [set_ne n1] at h3
    rw [set_ne n2] at h4
    exact k.sep a b p q xs ys c e1 e2 h3 h4
  pin := fun j b e => by
    obtain ⟨ys, q⟩ := k.pin j b e
    have n : i ≠ j := fun z => by subst z; exact hp ys q
    exact ⟨ys, by rw [set_ne n]; exact q⟩
  frame := k.frame
  newF := k.newF
  oldF := k.oldF
  prot := fun a u e => by
    obtain ⟨z1, z2, z3⟩ := k.prot a u e
    refine ⟨z1, z2, fun j p ys hj => ?_⟩
    rcases get_set hj with ⟨_, q⟩ | ⟨n, q⟩
    · cases q
    · rw [set_ne n]
      exact z3 j p ys q
  dic := k.dic.set fun _ z => by cases z
/-- a cell's content is changed -/
theorem Ok.write (k : Ok K g F env σ H) {i : Nat} {p : Bool} {xs ys : List PyData} {a : Addr} {vs : List V} (he : env[i]? = some (.cel p xs)) (hs : σ[i]? = some (some (.ref a))) (h : DRs K F vs ys) :
    Ok K g F (env.set i (.cel p ys)) σ (upd H a (.lst vs)) := by
  obtain ⟨a', vs0, h1, h2, h3, h4, h5, h6⟩ := k.cel i p xs he
  rw [hs] at h1
  cases h1
  refine ⟨by simp [k.len], fun b u q => ?_, fun j e hj => ?_, fun j q us hj => ?_, fun j l q r us ws c h1 h2 h3 h4 => ?_, fun j b e => ?_, k.frame.put h3 (fun o e n => ?_), k.newF, k.oldF, fun b u e => ?_, ((k.dic.setE (i := i) (x := .cel p ys) fun _ z => by cases z).keep (Ex.refl F) (fun _ _ _ z => z) fun b _ e n => ⟨n, upd_ne fun z => by rw [z, h3] at e; cases e⟩)⟩
  · have ne : b ≠ a := fun z => by rw [z, h2] at q; cases q
    rw [upd_ne ne]
    exact k.fh b u q
  · rcases get_set hj with ⟨_, q⟩ | ⟨n, q⟩
    · cases q
    · exact k.dat j e q
  · rcases get_set hj with ⟨rfl, q⟩ | ⟨n, q⟩
    · cases q
      exact ⟨a, vs, hs, h2, upd_same, h, h5, h6⟩
    · obtain ⟨b, ws, z1, z2, z3, z4, z5⟩ := k.cel j _ us q
      have ne : b ≠ a := fun z => by
        subst z
        exact n (k.sep i j _ _ _ _ b he q hs z1)
      exact ⟨b, ws, z1, z2, by rw [upd_ne ne]; exact z3, z4, z5⟩
  · have f : ∀ {j : Nat} {q : Bool} {us : List PyData}, (env.set i (SD.cel p ys))[j]? = some (.cel q us) → ∃ q' us', env[j]? = some (.cel q' us') := fun {j q us} z => by
      rcases get_set z with ⟨rfl, _⟩ | ⟨_, z⟩
      · exact ⟨_, _, he⟩
      · exact ⟨_, _, z⟩
    obtain ⟨_, _, f1⟩ := f h1
    obtain ⟨_, _, f2⟩ := f h2
    exact k.sep j l _ _ _ _ c f1 f2 h3 h4
  · obtain ⟨us, q⟩ := k.pin j b e
    by_cases n : i = j
    · subst n
      rw [he] at q
      cases q
      exact ⟨ys, set_eq he⟩
    · exact ⟨us, by rw [set_ne n]; exact q⟩
  · cases p with
    | true => exact n i (h5 rfl)
    | false =>
      rw [h6 rfl] at e
      cases e
  · obtain ⟨z1, z2, z3⟩ := k.prot b u e
    have ne : b ≠ a := fun z => by
      subst z
      exact z3 i p xs he hs
    refine ⟨by rw [upd_ne ne]; exact z1, z2, fun j q us hj => ?_⟩
    rcases get_set hj with ⟨rfl, _⟩ | ⟨_, z⟩
    · exact z3 _ p xs he
    · exact z3 j q us z
end
end DL

namespace DL
variable {T : List (PySem.Addr × PySem.Str)} {Z : Zx T}
open PySem PySem.Spec PyProof.Rows L2
open Evl (Ex)

/-- by a truth -/
def bIf (b : Bool) (p q : Prop) : Prop := match b with
  | true => p
  | false => q
theorem bIf_t {p q : Prop} : bIf true p q = p := rfl
theorem bIf_f {p q : Prop} : bIf false p q = q := rfl
/-- a datum that is a truth -/
def bT (d : PyData) (K : Bool → Prop) : Prop := match d with
  | .bool b => K b
  | _ => False
theorem bT_inv {d : PyData} {K : Bool → Prop} (h : bT d K) : ∃ b, d = .bool b ∧ K b := by
  cases d <;> first | exact ⟨_, rfl, h⟩ | exact h.elim
theorem bIf_and {b : Bool} {q : Prop} (h : bIf b q False) : b = true ∧ q := by
  cases b
  · exact h.elim
  · exact ⟨rfl, h⟩
abbrev DE := List SD → (PyData → List SD → Prop) → Prop
abbrev DX := List SD → (SD → List SD → Prop) → Prop
abbrev DT := List SD → (Bool → List SD → Prop) → Prop
abbrev DA := List SD → (List PyData → List SD → Prop) → Prop
/-- a result: a datum, or a new cell that no name holds yet -/
def ResOk (K : PySem.W.Frag) (g : Gx Z) (F : Hp) (env : List SD) (σ : L2.St) (H : Hp) (v : V) : SD → Prop
  | .un => False
  | .dat d => DR K F v d
  | .cel _ xs => ∃ a vs, v = .ref a ∧ F a = none ∧ H a = some (.lst vs) ∧ DRs K F vs xs ∧ g.H0 a = none ∧ g.Pr a = none ∧ ∀ (j : Nat) (p : Bool) (ys : List PyData), env[j]? = some (.cel p ys) → σ[j]? ≠ some (some (.ref a))
  | .dic _ => False
def liftE (K : PySem.W.Frag) (Z : Zx T) (w : DE) : TE := fun σ H Q => ∃ (g : Gx Z) (F : Hp) (env : List SD) (P : PyData → List SD → Prop), Ok K g F env σ H ∧ w env P ∧
  ∀ d env' v F' H', P d env' → Ex F F' → Ok K g F' env' σ H' → DR K F' v d → Q v H'
def liftX (K : PySem.W.Frag) (Z : Zx T) (w : DX) : TE := fun σ H Q => ∃ (g : Gx Z) (F : Hp) (env : List SD) (P : SD → List SD → Prop), Ok K g F env σ H ∧ w env P ∧
  ∀ r env' v F' H', P r env' → Ex F F' → Ok K g F' env' σ H' → ResOk K g F' env' σ H' v r → Q v H'
def liftT (K : PySem.W.Frag) (Z : Zx T) (w : DT) : TT := fun σ H Q => ∃ (g : Gx Z) (F : Hp) (env : List SD) (P : Bool → List SD → Prop), Ok K g F env σ H ∧ w env P ∧
  ∀ b env' F' H', P b env' → Ex F F' → Ok K g F' env' σ H' → Q b H'
def liftA (K : PySem.W.Frag) (Z : Zx T) (w : DA) : TA := fun σ H Q => ∃ (g : Gx Z) (F : Hp) (env : List SD) (P : List PyData → List SD → Prop), Ok K g F env σ H ∧ w env P ∧
  ∀ ds env' vs F' H', P ds env' → Ex F F' → Ok K g F' env' σ H' → DRs K F' vs ds → Q vs H'
theorem PE.of {X : Cx} {e : Expr} {t t' : TE} (h : PE X e t) (w : ∀ σ H Q, t' σ H Q → t σ H Q) : PE X e t' := ⟨fun pins s σ H Q I q => h.run pins s σ H Q I (w σ H Q q)⟩
theorem PT.of {X : Cx} {e : Expr} {t t' : TT} (h : PT X e t) (w : ∀ σ H Q, t' σ H Q → t σ H Q) : PT X e t' := ⟨fun pins s σ H Q I q => h.run pins s σ H Q I (w σ H Q q)⟩
theorem PW.of {X : Cx} {e : Expr} {t t' : TT} (h : PW X e t) (w : ∀ σ H Q, t' σ H Q → t σ H Q) : PW X e t' := ⟨fun wh pins s σ H Q I q => h.run wh pins s σ H Q I (w σ H Q q)⟩
theorem PA.of {X : Cx} {e : List Expr} {t t' : TA} (h : PA X e t) (w : ∀ σ H Q, t' σ H Q → t σ H Q) : PA X e t' := ⟨fun p pins s σ H Q I q => h.run p pins s σ H Q I (w σ H Q q)⟩
theorem PS.of {X : Cx} {e : Stmt} {t t' : TS} (h : PS X e t) (w : ∀ D σ H, t' D σ H → t D σ H) : PS X e t' := ⟨fun pins s σ H D I q => h.run pins s σ H D I (w D σ H q)⟩
theorem PSs.of {X : Cx} {e : List Stmt} {t t' : TS} (h : PSs X e t) (w : ∀ D σ H, t' D σ H → t D σ H) : PSs X e t' := ⟨fun pins s σ H D I q => h.run pins s σ H D I (w D σ H q)⟩
section
variable {K : PySem.W.Frag} {g : Gx Z} {F F' : Hp} {env : List SD} {σ : L2.St} {H : Hp}
/-- a new cell that no name holds -/
theorem Ok.newCell (k : Ok K g F env σ H) {p : Addr} (h : H p = none) {vs : List V} {xs : List PyData} (r : DRs K F vs xs) :
    Ok K g F env σ (upd H p (.lst vs)) ∧ ResOk K g F env σ (upd H p (.lst vs)) (.ref p) (.cel false xs) := by
  refine ⟨k.extra h, p, vs, rfl, fnone k.fh h, upd_same, r, k.fresh0 h, ?_, fun j q ys e z => ?_⟩
  · cases e : g.Pr p with
    | none => rfl
    | some u =>
      have z := (k.prot p u e).1
      rw [h] at z
      cases z
  obtain ⟨a, ws, h1, _, h3, _⟩ := k.cel j q ys e
  rw [z] at h1
  cases h1
  rw [h] at h3
  cases h3
/-- such a cell becomes a datum -/
theorem Ok.freezeR (k : Ok K g F env σ H) {v : V} {p : Bool} {xs : List PyData} (h : ResOk K g F env σ H v (.cel p xs)) : ∃ F', Ex F F' ∧ Ok K g F' env σ H ∧ DR K F' v (.list xs) ∧ DR K F' v (.dict [(.none, .list xs)]) := by
  obtain ⟨a, vs, rfl, hF, hH, r, h0, hpr, nw⟩ := h
  have ex : Ex F (upd F a (.lst vs)) := Ex.new hF
  refine ⟨upd F a (.lst vs), ex, ⟨k.len, fun b u q => ?_, fun i d e => ?_, fun i q ys e => ?_, k.sep, k.pin, k.frame, fun b u q => ?_, k.oldF.new hF (fun _ z => by cases z), fun b u e => ?_, (k.dic.keep ex (fun _ _ _ z => z) fun b ys e n => ⟨by rw [upd_ne fun z => by rw [z, hH] at e; cases e]; exact n, rfl⟩)⟩, .lst (RdL.of upd_same) (r.mono ex), .row upd_same (r.mono ex)⟩
  · by_cases z : b = a
    · subst z
      rw [upd_same] at q
      exact hH.trans q
    · rw [upd_ne z] at q
      exact k.fh b u q
  · obtain ⟨v, z1, z2⟩ := k.dat i d e
    exact ⟨v, z1, z2.mono ex⟩
  · obtain ⟨b, ws, z1, z2, z3, z4, z5⟩ := k.cel i q ys e
    have ne : b ≠ a := fun z => by
      subst z
      exact nw i q ys e z1
    exact ⟨b, ws, z1, by rw [upd_ne ne]; exact z2, z3, z4.mono ex, z5⟩
  · by_cases z : b = a
    · subst z
      exact .inr h0
    · rw [upd_ne z] at q
      exact k.newF b u q
  · obtain ⟨z1, z2, z3⟩ := k.prot b u e
    have ne : b ≠ a := fun z => by
      subst z
      rw [hpr] at e
      cases e
    exact ⟨z1, by rw [upd_ne ne]; exact z2, z3⟩
theorem Ok.freezeP (k : Ok K g F env σ H) {v : V} {p : Bool} {xs : List PyData} (h : ResOk K g F env σ H v (.cel p xs)) : ∃ F', Ex F F' ∧ Ok K g F' env σ H ∧ DR K F' v (.list xs) := by
  obtain ⟨F', h1, h2, h3, _⟩ := k.freezeR h
  exact ⟨F', h1, h2, h3⟩
/-- a new tuple, a new list that never changes -/
theorem Ok.newTup (k : Ok K g F env σ H) {p : Addr} {o : Obj} (h : H p = none) (ho : PlT o) {vs : List V} {xs : List PyData} (r : DRs K F vs xs) :
    Ex F (upd F p (.frz o (.tup vs))) ∧ Ok K g (upd F p (.frz o (.tup vs))) env σ (upd H p (.frz o (.tup vs))) ∧ DR K (upd F p (.frz o (.tup vs))) (.ref p) (.tuple xs) := by
  have ex : Ex F (upd F p (.frz o (.tup vs))) := Ex.new (fnone k.fh h)
  exact ⟨ex, k.alloc h, .tup (.inl ⟨o, upd_same, ho⟩) (r.mono ex)⟩
theorem Ok.newLst (k : Ok K g F env σ H) {p : Addr} (h : H p = none) {vs : List V} {xs : List PyData} (r : DRs K F vs xs) :
    Ex F (upd F p (.lst vs)) ∧ Ok K g (upd F p (.lst vs)) env σ (upd H p (.lst vs)) ∧ DR K (upd F p (.lst vs)) (.ref p) (.list xs) := by
  have ex : Ex F (upd F p (.lst vs)) := Ex.new (fnone k.fh h)
  exact ⟨ex, k.alloc h, .lst (RdL.of upd_same) (r.mono ex)⟩
theorem drH (k : Ok K g F env σ H) {v : V} {d : PyData} (h : DR K F v d) : DR K H v d := h.mono k.fh
end

section
variable {X : Cx} {a b c e : Expr} {es : List Expr} {pos : Pos} {wa wb wc w : DE} {K : PySem.W.Frag}
abbrev dVar (i : Nat) (env : List SD) (P : PyData → List SD → Prop) : Prop := match env[i]? with
  | some (.dat d) => P d env
  | _ => False
theorem lift_var {i : Nat} {σ : L2.St} {H : Hp} {Q : VK} (h : liftE K Z (dVar i) σ H Q) : tVar i σ H Q := by
  obtain ⟨g, F, env, P, k, w, q⟩ := h
  unfold dVar at w
  split at w
  · rename_i d e
    obtain ⟨v, h1, h2⟩ := k.dat i d e
    exact ⟨v, h1, q d env v F H w (Ex.refl F) k h2⟩
  · exact w.elim
theorem dv (i : Nat) {x : Str} {pos : Pos} (hN : X.N[i]? = some x := by rfl) (hv : Vis X.env.scope x := by first | exact Or.inl rfl | exact Or.inr (Or.inl rfl) | exact Or.inr (Or.inr rfl)) (hd : (x == ("__debug__" : Str)) = false := by decide)
    (hcd : (x == ("__classdict__" : Str)) = false := by decide) : PE X (.Name x pos) (liftE X.K Z (dVar i)) := PE.of (pe_var hN hv hd hcd) fun _ _ _ h => lift_var h
abbrev dC (d : PyData) (env : List SD) (P : PyData → List SD → Prop) : Prop := P d env
theorem lift_c {v : V} {d : PyData} (hv : ∀ F : Hp, DR K F v d) {σ : L2.St} {H : Hp} {Q : VK} (h : liftE K Z (dC d) σ H Q) : tC v σ H Q := by
  obtain ⟨g, F, env, P, k, w, q⟩ := h
  exact q d env v F H w (Ex.refl F) k (hv F)
theorem di {i : Int} {j pos} : PE X (.Constant (.int i) j pos) (liftE X.K Z (dC (.int i))) := PE.of pe_int fun _ _ _ h => lift_c (fun _ => .int i) h
theorem db {i : Bool} {j pos} : PE X (.Constant (.bool i) j pos) (liftE X.K Z (dC (.bool i))) := PE.of pe_bl fun _ _ _ h => lift_c (fun _ => .bl i) h
theorem dn {j pos} : PE X (.Constant .none j pos) (liftE X.K Z (dC .none)) := PE.of pe_non fun _ _ _ h => lift_c (fun _ => .non) h
theorem ds {i : Str} {j pos} : PE X (.Constant (.str i) j pos) (liftE X.K Z (dC (.str i))) := PE.of pe_str fun _ _ _ h => lift_c (fun _ => .str i) h
/-- a module's constant -/
theorem dglob {x : Str} {u : Value} {d : PyData} {pos : Pos} {v : V} (hm : X.mg x = some u) (r : RelV v u) (hd : ∀ F : Hp, DR X.K F v d) (hg : Gl X x := by rfl) (hdb : (x == ("__debug__" : Str)) = false := by decide) : PE X (.Name x pos) (liftE X.K Z (dC d)) :=
  PE.of (pe_glob hg hm r hdb) fun _ _ _ h => lift_c hd h
abbrev D2 := PyData → PyData → (PyData → Prop) → Prop
abbrev dOp (f : D2) (wa wb : DE) (env : List SD) (P : PyData → List SD → Prop) : Prop := wa env fun x env1 => wb env1 fun y env2 => f x y fun z => P z env2
def OpD (K : PySem.W.Frag) (r : R2) (f : D2) : Prop :=
  ∀ (T : List (Addr × Str)) (Z : Zx T) (g : Gx Z) (F : Hp) (env : List SD) (σ : L2.St) (H : Hp) (vx vy : V) (dx dy : PyData) (P : PyData → Prop) (Q : VK), Ok K g F env σ H → DR K F vx dx → DR K F vy dy → f dx dy P →
    (∀ d v F' H', P d → Ex F F' → Ok K g F' env σ H' → DR K F' v d → Q v H') → r vx vy H Q
theorem lift_op {r : R2} {f : D2} (hd : OpD K r f) {σ : L2.St} {H : Hp} {Q : VK} (h : liftE K Z (dOp f wa wb) σ H Q) : tOp r (liftE K Z wa) (liftE K Z wb) σ H Q := by
  obtain ⟨g, F, env, P, k, w, q⟩ := h
  refine ⟨g, F, env, _, k, w, fun d env1 v F1 H1 p e1 k1 r1 => ⟨g, F1, env1, _, k1, p, fun d2 env2 v2 F2 H2 p2 e2 k2 r2 => ?_⟩⟩
  exact hd _ _ g F2 env2 σ H2 v v2 d d2 _ Q k2 (r1.mono e2) r2 p2 fun d3 v3 F3 H3 p3 e3 k3 r3 => q d3 env2 v3 F3 H3 p3 (e1.trans (e2.trans e3)) k3 r3
theorem dop {op : Operator} {r : R2} {f : D2} (ho : OpR X (binaryOp op) r) (hd : OpD X.K r f) (ha : PE X a (liftE X.K Z wa)) (hb : PE X b (liftE X.K Z wb)) : PE X (.BinOp a op b pos) (liftE X.K Z (dOp f wa wb)) :=
  PE.of (pe_op ho ha hb) fun _ _ _ h => lift_op hd h
theorem dcmp {op : CmpOp} {r : R2} {f : D2} (ho : OpR X (compareOp op) r) (hd : OpD X.K r f) (ha : PE X a (liftE X.K Z wa)) (hb : PE X b (liftE X.K Z wb)) (hm : behindInMarks op b = false) : PE X (.Compare a [op] [b] pos) (liftE X.K Z (dOp f wa wb)) :=
  PE.of (pe_cmpR ho ha hb hm) fun _ _ _ h => lift_op hd h
abbrev dTest (w : DE) (env : List SD) (P : Bool → List SD → Prop) : Prop := w env fun d env' => bT d fun b => P b env'
theorem lift_test {t : TE} (ht : ∀ σ H Q, liftE K Z w σ H Q → t σ H Q) {σ : L2.St} {H : Hp} {Q : Bool → Hp → Prop} (h : liftT K Z (dTest w) σ H Q) : tTest t σ H Q := by
  obtain ⟨g, F, env, P, k, w, q⟩ := h
  refine ht _ _ _ ⟨g, F, env, _, k, w, fun d env1 v F1 H1 p e1 k1 r1 => ?_⟩
  obtain ⟨b, rfl, p⟩ := bT_inv p
  cases r1.inv_bool
  exact ⟨_, rfl, q _ env1 F1 H1 p e1 k1⟩
theorem dcmpT {op : CmpOp} {r : R2} {f : D2} (ho : OpR X (compareOp op) r) (hd : OpD X.K r f) (ha : PE X a (liftE X.K Z wa)) (hb : PE X b (liftE X.K Z wb)) (hm : behindInMarks op b = false) : PT X (.Compare a [op] [b] pos) (liftT X.K Z (dTest (dOp f wa wb))) :=
  PT.of (pt_cmpR ho ha hb hm) fun _ _ _ h => lift_test (fun _ _ _ h => lift_op hd h) h
/-- any other expression as a test -/
theorem dtest (h : PE X e (liftE X.K Z w)) (he : ∀ whole, isTrue e X.env whole = (do let v ← whole; standAt e.pos; holding [v] (truthy v)) := by intro _; rfl) : PT X e (liftT X.K Z (dTest w)) :=
  PT.of (pt_val h he) fun _ _ _ q => lift_test (fun _ _ _ h => h) q
/-- a < b < c -/
abbrev dChain (f f' : D2) (wa wb wc : DE) (env : List SD) (P : PyData → List SD → Prop) : Prop := wa env fun x env1 => wb env1 fun y env2 => f x y fun z => bT z fun b => bIf b (wc env2 fun u env3 => f' y u fun z2 => P z2 env3) (P (.bool false) env2)
theorem lift_chain {r r' : R2} {f f' : D2} (hd : OpD K r f) (hd' : OpD K r' f') {σ : L2.St} {H : Hp} {Q : VK} (h : liftE K Z (dChain f f' wa wb wc) σ H Q) : tChain r r' (liftE K Z wa) (liftE K Z wb) (liftE K Z wc) σ H Q := by
  obtain ⟨g, F, env, P, k, w, q⟩ := h
  refine ⟨g, F, env, _, k, w, fun d env1 v F1 H1 p e1 k1 r1 => ⟨g, F1, env1, _, k1, p, fun d2 env2 v2 F2 H2 p2 e2 k2 r2 => ?_⟩⟩
  refine hd _ _ g F2 env2 σ H2 v v2 d d2 _ _ k2 (r1.mono e2) r2 p2 fun d3 v3 F3 H3 p3 e3 k3 r3 => ?_
  obtain ⟨b, rfl, p3⟩ := bT_inv p3
  cases r3.inv_bool
  cases b with
  | true =>
    refine ⟨true, rfl, iteT ⟨g, F3, env2, _, k3, p3, fun d4 env4 v4 F4 H4 p4 e4 k4 r4 => ?_⟩⟩
    exact hd' _ _ g F4 env4 σ H4 v2 v4 d2 d4 _ Q k4 ((r2.mono e3).mono e4) r4 p4 fun d5 v5 F5 H5 p5 e5 k5 r5 => q d5 env4 v5 F5 H5 p5 (e1.trans (e2.trans (e3.trans (e4.trans e5)))) k5 r5
  | false =>
    exact ⟨false, rfl, iteF (q _ env2 _ F3 H3 p3 (e1.trans (e2.trans e3)) k3 (.bl false))⟩
theorem dchain {op op' : CmpOp} {r r' : R2} {f f' : D2} (ho : OpR X (compareOp op) r) (ho' : OpR X (compareOp op') r') (hd : OpD X.K r f) (hd' : OpD X.K r' f') (ha : PE X a (liftE X.K Z wa)) (hb : PE X b (liftE X.K Z wb)) (hc : PE X c (liftE X.K Z wc))
    (hm : lastMarks [op, op'] [b, c] = false := by with_unfolding_all rfl) : PE X (.Compare a [op, op'] [b, c] pos) (liftE X.K Z (dChain f f' wa wb wc)) :=
  PE.of (pe_chain ho ho' ha hb hc hm) fun _ _ _ h => lift_chain hd hd' h
theorem dchainT {op op' : CmpOp} {r r' : R2} {f f' : D2} (ho : OpR X (compareOp op) r) (ho' : OpR X (compareOp op') r') (hd : OpD X.K r f) (hd' : OpD X.K r' f') (ha : PE X a (liftE X.K Z wa)) (hb : PE X b (liftE X.K Z wb)) (hc : PE X c (liftE X.K Z wc))
    (hm : lastMarks [op, op'] [b, c] = false := by with_unfolding_all rfl) : PT X (.Compare a [op, op'] [b, c] pos) (liftT X.K Z (dTest (dChain f f' wa wb wc))) :=
  PT.of (pt_chain ho ho' ha hb hc hm) fun _ _ _ h => lift_test (fun _ _ _ h => lift_chain hd hd' h) h
/-- one place -/
abbrev D1 := PyData → (PyData → Prop) → Prop
abbrev dUn (f : D1) (wa : DE) (env : List SD) (P : PyData → List SD → Prop) : Prop := wa env fun x env1 => f x fun z => P z env1
def UnD (K : PySem.W.Frag) (r : V → Hp → VK → Prop) (f : D1) : Prop :=
  ∀ (T : List (Addr × Str)) (Z : Zx T) (g : Gx Z) (F : Hp) (env : List SD) (σ : L2.St) (H : Hp) (vx : V) (dx : PyData) (P : PyData → Prop) (Q : VK), Ok K g F env σ H → DR K F vx dx → f dx P →
    (∀ d v F' H', P d → Ex F F' → Ok K g F' env σ H' → DR K F' v d → Q v H') → r vx H Q
theorem dun {op : UnaryOp} {r : V → Hp → VK → Prop} {f : D1} (ho : UnR X (unaryOp op) r) (hd : UnD X.K r f) (ha : PE X a (liftE X.K Z wa)) : PE X (.UnaryOp op a pos) (liftE X.K Z (dUn f wa)) :=
  PE.of (pe_un ho ha) fun σ H Q h => by
    obtain ⟨g, F, env, P, k, w, q⟩ := h
    refine ⟨g, F, env, _, k, w, fun d env1 v F1 H1 p e1 k1 r1 => ?_⟩
    exact hd _ _ g F1 env1 σ H1 v d _ Q k1 r1 p fun d3 v3 F3 H3 p3 e3 k3 r3 => q d3 env1 v3 F3 H3 p3 (e1.trans e3) k3 r3
abbrev dAndV (wa wb : DE) (env : List SD) (P : PyData → List SD → Prop) : Prop := wa env fun x env1 => bT x fun b => bIf b (wb env1 P) (P (.bool false) env1)
abbrev dNotV (wa : DE) (env : List SD) (P : PyData → List SD → Prop) : Prop := wa env fun x env1 => bT x fun b => P (.bool (!b)) env1
variable {rest : List Expr}
theorem done {op : BoolOp} (h : PE X a (liftE X.K Z wa)) : PE X (.BoolOp op [a] pos) (liftE X.K Z wa) := pe_one h
theorem dandV (ha : PE X a (liftE X.K Z wa)) (hb : PE X (.BoolOp .And (b :: rest) pos) (liftE X.K Z wb)) : PE X (.BoolOp .And (a :: b :: rest) pos) (liftE X.K Z (dAndV wa wb)) :=
  PE.of (pe_and ha hb) fun σ H Q h => by
    obtain ⟨g, F, env, P, k, w, q⟩ := h
    refine ⟨g, F, env, _, k, w, fun d env1 v F1 H1 p e1 k1 r1 => ?_⟩
    obtain ⟨b, rfl, p⟩ := bT_inv p
    cases r1.inv_bool
    cases b with
    | true => exact ⟨true, rfl, iteT ⟨g, F1, env1, _, k1, p, fun d2 env2 v2 F2 H2 p2 e2 k2 r2 => q d2 env2 v2 F2 H2 p2 (e1.trans e2) k2 r2⟩⟩
    | false => exact ⟨false, rfl, iteF (q _ env1 _ F1 H1 p e1 k1 (.bl false))⟩
theorem dnotV (ha : PE X a (liftE X.K Z wa)) : PE X (.UnaryOp .Not a pos) (liftE X.K Z (dNotV wa)) :=
  PE.of (pe_not ha) fun σ H Q h => by
    obtain ⟨g, F, env, P, k, w, q⟩ := h
    refine ⟨g, F, env, _, k, w, fun d env1 v F1 H1 p e1 k1 r1 => ?_⟩
    obtain ⟨b, rfl, p⟩ := bT_inv p
    cases r1.inv_bool
    exact ⟨_, rfl, q _ env1 _ F1 H1 p e1 k1 (.bl _)⟩
abbrev dAnd (t u : DT) (env : List SD) (P : Bool → List SD → Prop) : Prop := t env fun b env1 => bIf b (u env1 P) (P false env1)
abbrev dOr (t u : DT) (env : List SD) (P : Bool → List SD → Prop) : Prop := t env fun b env1 => bIf b (P true env1) (u env1 P)
abbrev dNot (t : DT) (env : List SD) (P : Bool → List SD → Prop) : Prop := t env fun b env1 => P (!b) env1
variable {t u : DT}
theorem tand1 (ha : PT X a (liftT X.K Z t)) : PW X (.BoolOp .And [a] pos) (liftT X.K Z t) := pw_and1 ha
theorem tor1 (ha : PT X a (liftT X.K Z t)) : PW X (.BoolOp .Or [a] pos) (liftT X.K Z t) := pw_or1 ha
theorem tand (ha : PT X a (liftT X.K Z t)) (hb : PW X (.BoolOp .And (b :: rest) pos) (liftT X.K Z u)) : PW X (.BoolOp .And (a :: b :: rest) pos) (liftT X.K Z (dAnd t u)) :=
  PW.of (pw_and ha hb) fun σ H Q h => by
    obtain ⟨g, F, env, P, k, w, q⟩ := h
    refine ⟨g, F, env, _, k, w, fun d env1 F1 H1 p e1 k1 => ?_⟩
    cases d with
    | true => exact iteT ⟨g, F1, env1, _, k1, p, fun d2 env2 F2 H2 p2 e2 k2 => q d2 env2 F2 H2 p2 (e1.trans e2) k2⟩
    | false => exact iteF (q _ env1 F1 H1 p e1 k1)
theorem tor (ha : PT X a (liftT X.K Z t)) (hb : PW X (.BoolOp .Or (b :: rest) pos) (liftT X.K Z u)) : PW X (.BoolOp .Or (a :: b :: rest) pos) (liftT X.K Z (dOr t u)) :=
  PW.of (pw_or ha hb) fun σ H Q h => by
    obtain ⟨g, F, env, P, k, w, q⟩ := h
    refine ⟨g, F, env, _, k, w, fun d env1 F1 H1 p e1 k1 => ?_⟩
    cases d with
    | false => exact iteF ⟨g, F1, env1, _, k1, p, fun d2 env2 F2 H2 p2 e2 k2 => q d2 env2 F2 H2 p2 (e1.trans e2) k2⟩
    | true => exact iteT (q _ env1 F1 H1 p e1 k1)
theorem tnot (ha : PT X a (liftT X.K Z t)) : PT X (.UnaryOp .Not a pos) (liftT X.K Z (dNot t)) :=
  PT.of (pt_not ha) fun σ H Q h => by
    obtain ⟨g, F, env, P, k, w, q⟩ := h
    exact ⟨g, F, env, _, k, w, fun d env1 F1 H1 p e1 k1 => q _ env1 F1 H1 p e1 k1⟩
variable {was : DA}
abbrev dNil (env : List SD) (P : List PyData → List SD → Prop) : Prop := P [] env
abbrev dCons (wa : DE) (wr : DA) (env : List SD) (P : List PyData → List SD → Prop) : Prop := wa env fun x env1 => wr env1 fun xs env2 => P (x :: xs) env2
theorem anil : PA X [] (liftA X.K Z dNil) := PA.of pa_nil fun σ H Q h => by
  obtain ⟨g, F, env, P, k, w, q⟩ := h
  exact q [] env [] F H w (Ex.refl F) k .nil
theorem acons (ha : PE X e (liftE X.K Z wa)) (hr : PA X es (liftA X.K Z was)) (hs : starEach (e :: es) X.env = (false, eval e X.env) :: starEach es X.env := by rfl) : PA X (e :: es) (liftA X.K Z (dCons wa was)) :=
  PA.of (pa_cons ha hr hs) fun σ H Q h => by
    obtain ⟨g, F, env, P, k, w, q⟩ := h
    exact ⟨g, F, env, _, k, w, fun d env1 v F1 H1 p e1 k1 r1 => ⟨g, F1, env1, _, k1, p, fun ds env2 vs F2 H2 p2 e2 k2 r2 => q (d :: ds) env2 (v :: vs) F2 H2 p2 (e1.trans e2) k2 (.cons (r1.mono e2) r2)⟩⟩
abbrev dTup (wa : DA) (env : List SD) (P : PyData → List SD → Prop) : Prop := wa env fun xs env' => bIf (Nat.ble xs.length 100000) (P (.tuple xs) env') False
abbrev dLst (wa : DA) (env : List SD) (P : SD → List SD → Prop) : Prop := wa env fun xs env' => bIf (Nat.ble xs.length 100000) (P (.cel false xs) env') False
theorem dtup {k : _} (h : PA X es (liftA X.K Z was)) : PE X (.Tuple es k pos) (liftE X.K Z (dTup was)) :=
  PE.of (pe_tupZ h) fun σ H Q h => by
    obtain ⟨g, F, env, P, k, w, q⟩ := h
    refine ⟨g, F, env, _, k, w, fun ds env1 vs F1 H1 p e1 k1 r1 => ⟨by rw [r1.length]; exact Evl.sz_of (Nat.le_of_ble_eq_true (bIf_and p).1), fun x o hx ho => ?_⟩⟩
    obtain ⟨e2, k2, r2⟩ := k1.newTup hx ho r1
    exact q _ env1 _ _ _ (bIf_and p).2 (e1.trans e2) k2 r2
theorem dlst (h : PA X es (liftA X.K Z was)) : PE X (.List es pos) (liftX X.K Z (dLst was)) :=
  PE.of (pe_lst h) fun σ H Q h => by
    obtain ⟨g, F, env, P, k, w, q⟩ := h
    refine ⟨g, F, env, _, k, w, fun ds env1 vs F1 H1 p e1 k1 r1 => ⟨by rw [r1.length]; exact Evl.sz_of (Nat.le_of_ble_eq_true (bIf_and p).1), fun x hx => ?_⟩⟩
    obtain ⟨k2, r2⟩ := k1.newCell hx r1
    exact q _ env1 _ _ _ (bIf_and p).2 e1 k2 r2
/-- a new list that is to stay as it is -/
abbrev dFrz (w : DX) (env : List SD) (P : PyData → List SD → Prop) : Prop := w env fun r env' => match r with
  | .dat d => P d env'
  | .cel _ xs => P (.list xs) env'
  | _ => False
theorem dfrz {w : DX} (h : PE X e (liftX X.K Z w)) : PE X e (liftE X.K Z (dFrz w)) := PE.of h fun σ H Q h => by
  obtain ⟨g, F, env, P, k, w, q⟩ := h
  refine ⟨g, F, env, _, k, w, fun r env1 v F1 H1 p e1 k1 r1 => ?_⟩
  cases r with
  | un => exact p.elim
  | dic _ => exact p.elim
  | dat d => exact q d env1 v F1 H1 p e1 k1 r1
  | cel b xs =>
    obtain ⟨F2, e2, k2, r2⟩ := k1.freezeP r1
    exact q _ env1 v F2 H1 p (e1.trans e2) k2 r2
abbrev dX (w : DE) (env : List SD) (P : SD → List SD → Prop) : Prop := w env fun d env' => P (.dat d) env'
theorem dx {w : DE} (h : PE X e (liftE X.K Z w)) : PE X e (liftX X.K Z (dX w)) := PE.of h fun σ H Q h => by
  obtain ⟨g, F, env, P, k, w, q⟩ := h
  exact ⟨g, F, env, _, k, w, fun d env1 v F1 H1 p e1 k1 r1 => q (.dat d) env1 v F1 H1 p e1 k1 r1⟩
theorem dix {r : R2} {f : D2} (ho : IxR X r) (hd : OpD X.K r f) (ha : PE X a (liftE X.K Z wa)) (hb : PE X b (liftE X.K Z wb)) (hs : PlainIx b := by intro _ _; rfl) : PE X (.Subscript a b pos) (liftE X.K Z (dOp f wa wb)) :=
  PE.of (pe_ix ho ha hb hs) fun _ _ _ h => lift_op hd h
theorem ixr_or {r r' : R2} (h : IxR X r) (h' : IxR X r') : IxR X (fun x y H Q => r x y H Q ∨ r' x y H Q) := by
  intro value slice pins s σ H x y v u Q I rx ry q hs
  rcases q with q | q
  · exact h value slice pins s σ H x y v u Q I rx ry q hs
  · exact h' value slice pins s σ H x y v u Q I rx ry q hs
/-- the item at a place -/
@[irreducible] def pick (xs : List PyData) (k : Int) (P : PyData → Prop) : Prop := match atI xs k with
  | some d => P d
  | none => False
theorem pick_inv {xs : List PyData} {k : Int} {P : PyData → Prop} (h : pick xs k P) : ∃ d, atI xs k = some d ∧ P d := by
  unfold pick at h
  cases e : atI xs k with
  | none => rw [e] at h; exact h.elim
  | some d => rw [e] at h; exact ⟨d, rfl, h⟩
def ixQ (xs : List PyData) (y : PyData) (K : PyData → Prop) : Prop := match y with
  | .int k => pick xs k K
  | _ => False
/-- the sign at a place of a text -/
@[irreducible] def pickS (z : Str) (k : Int) (P : PyData → Prop) : Prop := match atI z.cps.toList k with
  | some c => z.length ≤ 100000 ∧ P (.str ⟨#[c]⟩)
  | none => False
theorem pickS_inv {z : Str} {k : Int} {P : PyData → Prop} (h : pickS z k P) : ∃ c, atI z.cps.toList k = some c ∧ z.length ≤ 100000 ∧ P (.str ⟨#[c]⟩) := by
  unfold pickS at h
  cases e : atI z.cps.toList k with
  | none => rw [e] at h; exact h.elim
  | some c => rw [e] at h; exact ⟨c, rfl, h⟩
def oIx (x y : PyData) (P : PyData → Prop) : Prop := match x, y with
  | .tuple xs, .int k => pick xs k P
  | .list xs, .int k => pick xs k P
  | .str z, .int k => pickS z k P
  | _, _ => False
theorem atI_rel {F : Hp} {vs : List V} {ds : List PyData} {k : Int} {d : PyData} (r : DRs K F vs ds) (h : atI ds k = some d) : ∃ v, atI vs k = some v ∧ DR K F v d := by
  unfold atI at h ⊢
  rw [r.length]
  cases e : ixN ds.length k with
  | none => rw [e] at h; cases h
  | some j =>
    rw [e] at h
    exact r.get h
def rIx (K : PySem.W.Frag) : R2 := fun x y H Q => rIxT K x y H Q ∨ (rIxL K x y H Q ∨ rIxS x y H Q)
theorem ixr : IxR X (rIx X.K) := ixr_or ix_tup (ixr_or ix_list ix_str)
theorem opd_ix : OpD K (rIx K) oIx := by
  intro _ _ g F env σ H vx vy dx dy P Q k rx ry p q
  unfold oIx at p
  split at p
  · rename_i xs i
    cases ry.inv_int
    obtain ⟨d, e, p⟩ := pick_inv p
    obtain ⟨a, us, rfl, h1, h2⟩ := rx.inv_tup
    obtain ⟨v, e1, e2⟩ := atI_rel h2 e
    exact .inl ⟨a, us, i, v, rfl, rfl, Evl.ex_t k.fh h1, e1, q d v F H p (Ex.refl F) k e2⟩
  · rename_i xs i
    cases ry.inv_int
    obtain ⟨d, e, p⟩ := pick_inv p
    obtain ⟨a, us, rfl, h1, h2⟩ := rx.inv_lst
    obtain ⟨v, e1, e2⟩ := atI_rel h2 e
    exact .inr (.inl ⟨a, us, i, v, rfl, rfl, (h1.mono k.fh).sq, e1, q d v F H p (Ex.refl F) k e2⟩)
  · rename_i z i
    cases ry.inv_int
    cases rx.inv_str
    obtain ⟨c, e, hz, p⟩ := pickS_inv p
    exact .inr (.inr ⟨z, i, c, rfl, rfl, by rw [sizeLine_eq]; omega, e, q _ _ F H p (Ex.refl F) k (.str _)⟩)
  · exact p.elim
theorem dixP (ha : PE X a (liftE X.K Z wa)) (hb : PE X b (liftE X.K Z wb)) (hs : PlainIx b := by intro _ _; rfl) : PE X (.Subscript a b pos) (liftE X.K Z (dOp oIx wa wb)) := dix ixr opd_ix ha hb hs
/-- an item of a name's own cell -/
abbrev dIxC (i : Nat) (wb : DE) (env : List SD) (P : PyData → List SD → Prop) : Prop := match env[i]? with
  | some (.cel _ _) => wb env fun y env1 => match env1[i]? with
    | some (.cel _ xs) => ixQ xs y fun d => P d env1
    | _ => False
  | _ => False
theorem dixC (i : Nat) {x : Str} {p0 : Pos} (hb : PE X b (liftE X.K Z wb)) (hN : X.N[i]? = some x := by rfl) (hv : Vis X.env.scope x := by first | exact Or.inl rfl | exact Or.inr (Or.inl rfl) | exact Or.inr (Or.inr rfl)) (hd : (x == ("__debug__" : Str)) = false := by decide)
    (hcd : (x == ("__classdict__" : Str)) = false := by decide) (hs : PlainIx b := by intro _ _; rfl) : PE X (.Subscript (.Name x p0) b pos) (liftE X.K Z (dIxC i wb)) :=
  PE.of (pe_ix ix_list (pe_var hN hv hd hcd) hb hs) fun σ H Q h => by
    obtain ⟨g, F, env, P, k, w, q⟩ := h
    unfold dIxC at w
    split at w
    · rename_i p xs e
      obtain ⟨a0, vs, h1, _⟩ := k.cel i p xs e
      refine ⟨_, h1, g, F, env, _, k, w, fun d env1 v F1 H1 p1 e1 k1 r1 => ?_⟩
      split at p1
      · rename_i p' ys e'
        obtain ⟨n, rfl, p1⟩ : ∃ n, d = .int n ∧ pick ys n _ := by
          cases d <;> first | exact ⟨_, rfl, p1⟩ | exact p1.elim
        cases r1.inv_int
        obtain ⟨d', ed, p1⟩ := pick_inv p1
        obtain ⟨a1, ws, z1, z2, z3, z4, z5⟩ := k1.cel i _ _ e'
        rw [h1] at z1
        cases z1
        obtain ⟨u, u1, u2⟩ := atI_rel z4 ed
        exact ⟨a0, ws, n, u, rfl, rfl, SqL.of z3, u1, q d' env1 u F1 H1 p1 e1 k1 u2⟩
      · exact p1.elim
    · exact w.elim
end
end DL

namespace DL
variable {T : List (PySem.Addr × PySem.Str)} {Z : Zx T}
open PySem PySem.Spec PyProof.Rows L2
open Evl (Ex)

/-- a whole number of at most thousand figures -/
def Sz (i : Int) : Prop := i.natAbs < 10 ^ 1000
theorem Sz.log {i : Int} (h : Sz i) : i.natAbs.log2 < 3322 := by
  have h1 : i.natAbs < 2 ^ 3322 := Nat.lt_trans h (by decide +kernel)
  exact PySem.Flt.log2_lt_of (by decide) h1
theorem Sz.bits {i : Int} (h : Sz i) : Builtin.Int.intBits i ≤ 3322 := by
  have h1 := h.log
  unfold Builtin.Int.intBits
  split <;> omega
theorem sz_of {i : Int} (h1 : -(10 ^ 100) ≤ i) (h2 : i ≤ 10 ^ 100) : Sz i := by
  unfold Sz
  have : i.natAbs ≤ 10 ^ 100 := by omega
  exact Nat.lt_of_le_of_lt this (by decide +kernel)
theorem sz_lt {i : Int} (h : i.natAbs < 10 ^ 250) : Sz i := Nat.lt_trans h (by decide +kernel)
section
variable {X : Cx} {K : PySem.W.Frag}
def oI (g : Int → Int → PyData) (x y : PyData) (P : PyData → Prop) : Prop := match x, y with
  | .int i, .int j => P (g i j)
  | _, _ => False
theorem opd_I0 {gv : Int → Int → V} {gd : Int → Int → PyData} (hg : ∀ (F : Hp) i j, DR K F (gv i j) (gd i j)) : OpD K (rI0 gv) (oI gd) := by
  intro _ _ g F env σ H vx vy dx dy P Q k rx ry p q
  unfold oI at p
  split at p
  · cases rx.inv_int
    cases ry.inv_int
    exact ⟨_, _, rfl, rfl, q _ _ F H p (Ex.refl F) k (hg F _ _)⟩
  · exact p.elim
def oIc (C : Int → Int → Prop) (g : Int → Int → PyData) (x y : PyData) (P : PyData → Prop) : Prop := match x, y with
  | .int i, .int j => C i j ∧ P (g i j)
  | _, _ => False
theorem opd_I {C C' : Int → Int → Prop} {gv : Int → Int → V} {gd : Int → Int → PyData} (hc : ∀ i j, C i j → C' i j) (hg : ∀ (F : Hp) i j, DR K F (gv i j) (gd i j)) : OpD K (rI C' gv) (oIc C gd) := by
  intro _ _ g F env σ H vx vy dx dy P Q k rx ry p q
  unfold oIc at p
  split at p
  · cases rx.inv_int
    cases ry.inv_int
    exact ⟨_, _, rfl, rfl, hc _ _ p.1, q _ _ F H p.2 (Ex.refl F) k (hg F _ _)⟩
  · exact p.elim
abbrev oSub : D2 := oI fun i j => .int (i - j)
/-- the one text ahead of the other -/
@[irreducible] def strLt (a b : Str) : Bool := decide (a.cps.toList < b.cps.toList)
def oLt (x y : PyData) (P : PyData → Prop) : Prop := match x, y with
  | .int i, .int j => P (.bool (decide (i < j)))
  | .str a, .str b => P (.bool (strLt a b))
  | _, _ => False
def rLtA : R2 := fun x y H Q => (rI0 fun i j => .bl (decide (i < j))) x y H Q ∨ ∃ i j, x = .str i ∧ y = .str j ∧ Q (.bl (decide (i.cps.toList < j.cps.toList))) H
theorem op_ltA {X : Cx} : OpR X (compareOp .Lt) rLtA := OpR.or op_lt op_lt_str
abbrev oLe : D2 := oI fun i j => .bool (decide (i ≤ j))
abbrev oGt : D2 := oI fun i j => .bool (decide (j < i))
abbrev oGe : D2 := oI fun i j => .bool (decide (j ≤ i))
abbrev oMod : D2 := oIc (fun _ j => 0 < j) fun i j => .int (i % j)
abbrev oDiv : D2 := oIc (fun _ j => 0 < j ∧ Sz j) fun i j => .int (i / j)
abbrev oMulI : D2 := oIc (fun i j => Sz i ∧ Sz j) fun i j => .int (i * j)
abbrev oPow : D2 := oIc (fun i j => Sz i ∧ 0 ≤ j ∧ j ≤ 10000) fun i j => .int (i ^ j.toNat)
variable {a b c e : Expr} {es : List Expr} {pos : Pos} {wa wb wc w : DE}
theorem op_powW : OpR X (binaryOp .Pow) (rI (fun i j => Sz i ∧ 0 ≤ j ∧ j ≤ 10000) fun i j => .int (i ^ j.toNat)) := by
  intro pins s σ H x y v u Q I rx ry h
  obtain ⟨i, j, rfl, rfl, ⟨h1, h2, h3⟩, q⟩ := h
  obtain ⟨t, rfl⟩ := rx
  obtain ⟨t', rfl⟩ := ry
  refine PyProof.Rows.pow_int h2 ?_ ⟨.int _, H, I.tok _, ⟨_, rfl⟩, q⟩
  have b := h1.bits
  have z : (Builtin.Int.intBits i : Int) * j ≤ 3322 * 10000 := Int.mul_le_mul (by omega) h3 h2 (by decide)
  exact Int.le_trans z (by decide)
theorem dsub (ha : PE X a (liftE X.K Z wa)) (hb : PE X b (liftE X.K Z wb)) : PE X (.BinOp a .Sub b pos) (liftE X.K Z (dOp oSub wa wb)) := dop op_sub (opd_I0 fun _ _ _ => .int _) ha hb
theorem dmod (ha : PE X a (liftE X.K Z wa)) (hb : PE X b (liftE X.K Z wb)) : PE X (.BinOp a .Mod b pos) (liftE X.K Z (dOp oMod wa wb)) := dop op_mod (opd_I (fun _ _ h => h) fun _ _ _ => .int _) ha hb
theorem ddiv (ha : PE X a (liftE X.K Z wa)) (hb : PE X b (liftE X.K Z wb)) : PE X (.BinOp a .FloorDiv b pos) (liftE X.K Z (dOp oDiv wa wb)) :=
  dop op_fdivW (opd_I (fun _ _ h => ⟨h.1, Nat.lt_trans h.2.log (by decide)⟩) fun _ _ _ => .int _) ha hb
theorem dpow (ha : PE X a (liftE X.K Z wa)) (hb : PE X b (liftE X.K Z wb)) : PE X (.BinOp a .Pow b pos) (liftE X.K Z (dOp oPow wa wb)) := dop op_powW (opd_I (fun _ _ h => h) fun _ _ _ => .int _) ha hb
theorem opr_ltA : OpD K rLtA oLt := by
  intro _ _ g F env σ H vx vy dx dy P Q k rx ry p q
  unfold oLt at p
  split at p
  · cases rx.inv_int
    cases ry.inv_int
    exact .inl ⟨_, _, rfl, rfl, q _ _ F H p (Ex.refl F) k (.bl _)⟩
  · cases rx.inv_str
    cases ry.inv_str
    unfold strLt at p
    exact .inr ⟨_, _, rfl, rfl, q _ _ F H p (Ex.refl F) k (.bl _)⟩
  · exact p.elim
theorem opr_le : OpD K (rI0 fun i j => V.bl (decide (i ≤ j))) oLe := opd_I0 fun _ _ _ => .bl _
theorem opr_gt : OpD K (rI0 fun i j => V.bl (decide (j < i))) oGt := opd_I0 fun _ _ _ => .bl _
theorem opr_ge : OpD K (rI0 fun i j => V.bl (decide (j ≤ i))) oGe := opd_I0 fun _ _ _ => .bl _
def oNeg (x : PyData) (P : PyData → Prop) : Prop := match x with
  | .int i => P (.int (-i))
  | _ => False
theorem dneg (ha : PE X a (liftE X.K Z wa)) : PE X (.UnaryOp .USub a pos) (liftE X.K Z (dUn oNeg wa)) := dun un_neg (by
  intro _ _ g F env σ H vx dx P Q k rx p q
  unfold oNeg at p
  split at p
  · cases rx.inv_int
    exact ⟨_, rfl, q _ _ F H p (Ex.refl F) k (.int _)⟩
  · exact p.elim) ha
def oAdd (x y : PyData) (P : PyData → Prop) : Prop := match x, y with
  | .int i, .int j => P (.int (i + j))
  | .tuple xs, .tuple ys => xs.length + ys.length ≤ 100000 ∧ P (.tuple (xs ++ ys))
  | .list xs, .list ys => xs.length + ys.length ≤ 100000 ∧ P (.list (xs ++ ys))
  | .str i, .str j => i.length + j.length ≤ 100000 ∧ P (.str (i ++ j))
  | _, _ => False
theorem sz2 {n : Nat} (h : n ≤ 100000) : n ≤ sizeLine := Evl.sz_of h
/-- two lists that stand, known to the object or not -/
def rCatL (K : PySem.W.Frag) : R2 := fun x y H Q => ∃ l b xs zs, x = .ref l ∧ y = .ref b ∧ RdL K H l xs ∧ RdL K H b zs ∧ xs.length + zs.length ≤ sizeLine ∧ ∀ p, H p = none → Q (.ref p) (upd H p (.lst (xs ++ zs)))
theorem op_catL : OpR X (binaryOp .Add) (rCatL X.K) := by
  intro pins s σ H x y v u Q I rx ry h
  obtain ⟨l, b, xs, zs, rfl, rfl, hl, hb, hz, q⟩ := h
  cases rx
  cases ry
  obtain ⟨z1, its, n, r1, e1⟩ := hl.obj I
  obtain ⟨z2, its2, n2, r2, e2⟩ := hb.obj I
  have l1 := r1.length
  have l2 := r2.length
  refine PySem.P.add_list e1 e2 ?_ (by rw [List.size_toArray, List.size_toArray]; omega)
  rw [show its.toArray ++ its2.toArray = (its ++ its2).toArray by simp]
  exact ⟨.ref _, _, I.lnew (t' := s.toks) (r1.append r2) (by rw [List.length_append]; omega), rfl, q _ I.fresh⟩
def rAddD (K : PySem.W.Frag) : R2 := fun x y H Q => ((rI0 fun i j => .int (i + j)) x y H Q ∨ rCatZ K x y H Q) ∨ (rCatL K x y H Q ∨ (∃ i j, x = .str i ∧ y = .str j ∧ i.length + j.length ≤ sizeLine ∧ Q (.str (i ++ j)) H))
theorem op_addD : OpR X (binaryOp .Add) (rAddD X.K) := OpR.or (OpR.or op_add op_catZ) (OpR.or op_catL op_add_str)
theorem opd_add : OpD K (rAddD K) oAdd := by
  intro _ _ g F env σ H vx vy dx dy P Q k rx ry p q
  unfold oAdd at p
  split at p
  · cases rx.inv_int
    cases ry.inv_int
    exact .inl (.inl ⟨_, _, rfl, rfl, q _ _ F H p (Ex.refl F) k (.int _)⟩)
  · rename_i xs ys
    obtain ⟨a, us, rfl, h1, h2⟩ := rx.inv_tup
    obtain ⟨b, ws, rfl, h3, h4⟩ := ry.inv_tup
    have l1 := h2.length
    have l2 := h4.length
    refine .inl (.inr ⟨a, b, us, ws, rfl, rfl, Evl.ex_t k.fh h1, Evl.ex_t k.fh h3, by rw [l1, l2]; exact sz2 p.1, fun e => ?_, fun _ e => ?_, fun _ _ x o hx ho => ?_⟩)
    · subst e
      have : xs = [] := by cases h2; rfl
      subst this
      exact q _ _ F H p.2 (Ex.refl F) k ry
    · subst e
      have : ys = [] := by cases h4; rfl
      subst this
      rw [List.append_nil] at p
      exact q _ _ F H p.2 (Ex.refl F) k rx
    · obtain ⟨e2, k2, r2⟩ := k.newTup hx ho (h2.append h4)
      exact q _ _ _ _ p.2 e2 k2 r2
  · rename_i xs ys
    obtain ⟨a, us, rfl, h1, h2⟩ := rx.inv_lst
    obtain ⟨b, ws, rfl, h3, h4⟩ := ry.inv_lst
    have l1 := h2.length
    have l2 := h4.length
    refine .inr (.inl ⟨a, b, us, ws, rfl, rfl, h1.mono k.fh, h3.mono k.fh, by rw [l1, l2]; exact sz2 p.1, fun x hx => ?_⟩)
    obtain ⟨e2, k2, r2⟩ := k.newLst hx (h2.append h4)
    exact q _ _ _ _ p.2 e2 k2 r2
  · cases rx.inv_str
    cases ry.inv_str
    exact .inr (.inr ⟨_, _, rfl, rfl, sz2 p.1, q _ _ F H p.2 (Ex.refl F) k (.str _)⟩)
  · exact p.elim
theorem dadd (ha : PE X a (liftE X.K Z wa)) (hb : PE X b (liftE X.K Z wb)) : PE X (.BinOp a .Add b pos) (liftE X.K Z (dOp oAdd wa wb)) := dop op_addD opd_add ha hb
mutual
theorem DR.dp {K : PySem.W.Frag} {H : Hp} : ∀ {d : PyData} {v : V}, DR K H v d → PyData.hasDict d = false → Dp K H v d
  | .none, _, h, _ => by cases h; exact .non
  | .bool b, _, h, _ => by cases h; exact .bl b
  | .int i, _, h, _ => by cases h; exact .int i
  | .str x, _, h, _ => by cases h; exact .str x
  | .list ds, _, h, hd => by
    cases h with
    | lst a b => exact .lst a.sq (DRs.dp b (by simpa [PyData.hasDict] using hd))
  | .tuple ds, _, h, hd => by
    cases h with
    | tup a b => exact .tup a.sq (DRs.dp b (by simpa [PyData.hasDict] using hd))
  | .dict kvs, _, _, hd => by simp [PyData.hasDict] at hd
theorem DRs.dp {K : PySem.W.Frag} {H : Hp} : ∀ {ds : List PyData} {vs : List V}, DRs K H vs ds → PyData.hasDictAll ds = false → DpAll K H vs ds
  | [], _, h, _ => by cases h; exact .nil
  | d :: ds, _, h, hd => by
    simp only [PyData.hasDictAll, Bool.or_eq_false_iff] at hd
    cases h with
    | cons a b => exact .cons (DR.dp a hd.1) (DRs.dp b hd.2)
end
/-- == of two data, not to be looked into -/
@[irreducible] def eqD (x y : PyData) : Bool := PyData.eqv x y
theorem eqD_eq {x y : PyData} : eqD x y = PyData.eqv x y := by
  unfold eqD
  rfl
theorem eqD_int {i j : Int} : eqD (.int i) (.int j) = decide (i = j) := by
  rw [eqD_eq]
  show (i == j) = _
  rw [Bool.beq_eq_decide_eq]
def oEq (x y : PyData) (P : PyData → Prop) : Prop := match x, y with
  | .str a, .str b => P (.bool (decide (a = b)))
  | x, y => (SeqAt.shaped x = true ∧ SeqAt.shaped y = true) ∧ P (.bool (eqD x y))
def oNe (x y : PyData) (P : PyData → Prop) : Prop := match x, y with
  | .str a, .str b => P (.bool (!decide (a = b)))
  | x, y => (SeqAt.shaped x = true ∧ SeqAt.shaped y = true) ∧ P (.bool (!eqD x y))
theorem dict_of_shaped {d : PyData} (h : SeqAt.shaped d = true) : PyData.hasDict d = false := PyData.hasDict_of_canLay d (SeqAt.canLay_of_shaped h)
def rEqE (K : PySem.W.Frag) : R2 := fun x y H Q => rEq x y H Q ∨ rEqD K x y H Q
def rNeE (K : PySem.W.Frag) : R2 := fun x y H Q => rNe x y H Q ∨ rNeD K x y H Q
theorem op_eqE (hu : X.A.units + 64 < cLine) : OpR X (compareOp .Eq) (rEqE X.K) := OpR.or op_eq (op_eqD hu)
theorem op_neE (hu : X.A.units + 64 < cLine) : OpR X (compareOp .NotEq) (rNeE X.K) := OpR.or op_ne (op_neD hu)
theorem str_dec {a b : Str} : decide (V.str a = V.str b) = decide (a = b) := by
  by_cases h : a = b
  · subst h
    rw [decide_eq_true rfl, decide_eq_true rfl]
  · rw [decide_eq_false h, decide_eq_false (fun z => h (V.str.inj z))]
theorem opd_eq : OpD K (rEqE K) oEq := by
  intro _ _ g F env σ H vx vy dx dy P Q k rx ry p q
  unfold oEq at p
  split at p
  · cases rx.inv_str
    cases ry.inv_str
    refine .inl ⟨rfl, ?_⟩
    rw [str_dec]
    exact q _ _ F H p (Ex.refl F) k (.bl _)
  · obtain ⟨⟨h1, h2⟩, p⟩ := p
    rw [eqD_eq] at p
    exact .inr ⟨_, _, DR.dp (drH k rx) (dict_of_shaped h1), DR.dp (drH k ry) (dict_of_shaped h2), h1, h2, q _ _ F H p (Ex.refl F) k (.bl _)⟩
theorem opd_ne : OpD K (rNeE K) oNe := by
  intro _ _ g F env σ H vx vy dx dy P Q k rx ry p q
  unfold oNe at p
  split at p
  · cases rx.inv_str
    cases ry.inv_str
    refine .inl ⟨rfl, ?_⟩
    rw [str_dec]
    exact q _ _ F H p (Ex.refl F) k (.bl _)
  · obtain ⟨⟨h1, h2⟩, p⟩ := p
    rw [eqD_eq] at p
    exact .inr ⟨_, _, DR.dp (drH k rx) (dict_of_shaped h1), DR.dp (drH k ry) (dict_of_shaped h2), h1, h2, q _ _ F H p (Ex.refl F) k (.bl _)⟩
def oIsN (x : PyData) (P : PyData → Prop) : Prop := match x with
  | .none => P (.bool true)
  | _ => P (.bool false)
def oNotN (x : PyData) (P : PyData → Prop) : Prop := match x with
  | .none => P (.bool false)
  | _ => P (.bool true)
theorem non_iff {F : Hp} {v : V} {d : PyData} (r : DR K F v d) : decide (v = .non) = match d with | .none => true | _ => false := by
  cases r <;> first | rfl | (apply decide_eq_false; intro h; cases h)
theorem tisN {j pos'} (ha : PE X a (liftE X.K Z wa)) : PT X (.Compare a [.Is] [.Constant .none j pos'] pos) (liftT X.K Z (dTest (dUn oIsN wa))) :=
  PT.of (pt_cmp (pc_isN ha) rfl) fun σ H Q h => by
    obtain ⟨g, F, env, P, k, w, q⟩ := h
    refine ⟨g, F, env, _, k, w, fun d env1 v F1 H1 p e1 k1 r1 => ?_⟩
    refine ⟨_, rfl, ?_⟩
    rw [non_iff r1]
    cases d <;> exact q _ env1 F1 H1 p e1 k1
abbrev DN := List PyData → (PyData → Prop) → Prop
abbrev dB (f : DN) (wa : DA) (env : List SD) (P : PyData → List SD → Prop) : Prop := wa env fun xs env' => f xs fun z => P z env'
def CallD (K : PySem.W.Frag) (r : List V → Hp → VK → Prop) (f : DN) : Prop :=
  ∀ (T : List (Addr × Str)) (Z : Zx T) (g : Gx Z) (F : Hp) (env : List SD) (σ : L2.St) (H : Hp) (vs : List V) (ds : List PyData) (P : PyData → Prop) (Q : VK), Ok K g F env σ H → DRs K F vs ds → f ds P →
    (∀ d v F' H', P d → Ex F F' → Ok K g F' env σ H' → DR K F' v d → Q v H') → r vs H Q
theorem lift_call {r : List V → Hp → VK → Prop} {f : DN} {was : DA} (hd : CallD K r f) {σ : L2.St} {H : Hp} {Q : VK} (h : liftE K Z (dB f was) σ H Q) : tCB r (liftA K Z was) σ H Q := by
  obtain ⟨g, F, env, P, k, w, q⟩ := h
  refine ⟨g, F, env, _, k, w, fun ds env1 vs F1 H1 p e1 k1 r1 => ?_⟩
  exact hd _ _ g F1 env1 σ H1 vs ds _ Q k1 r1 p fun d2 v2 F2 H2 p2 e2 k2 r2 => q d2 env1 v2 F2 H2 p2 (e1.trans e2) k2 r2
theorem dcb {x : Str} {id : String} {p : Pos} {r : List V → Hp → VK → Prop} {f : DN} {was : DA} (hc : CallR X (.builtin id) r) (hd : CallD X.K r f) (hm : X.mg x = none) (hv : bootBuiltins x = some (.builtin id)) (ha : PA X (e :: es) (liftA X.K Z was))
    (hg : Gl X x := by rfl) (hn : x ≠ "__name__" := by decide) (hdb : (x == ("__debug__" : Str)) = false := by decide)
    (he : starEach (e :: es) X.env = (false, eval e X.env) :: starEach es X.env := by rfl) (hpl : (backTo pos (starEach es X.env)).any (·.1) = false := by rfl) : PE X (.Call (.Name x p) (e :: es) [] pos) (liftE X.K Z (dB f was)) :=
  PE.of (pe_callB hc hg hm hv ha hn hdb he hpl) fun _ _ _ h => lift_call hd h
theorem dct {x : Str} {T : String} {p : Pos} {r : List V → Hp → VK → Prop} {f : DN} {was : DA} (hc : CallR X (.type T) r) (hd : CallD X.K r f) (hm : X.mg x = none) (hv : bootBuiltins x = some (.type T)) (ha : PA X (e :: es) (liftA X.K Z was))
    (hg : Gl X x := by rfl) (hn : x ≠ "__name__" := by decide) (hdb : (x == ("__debug__" : Str)) = false := by decide)
    (he : starEach (e :: es) X.env = (false, eval e X.env) :: starEach es X.env := by rfl) (hpl : (backTo pos (starEach es X.env)).any (·.1) = false := by rfl) : PE X (.Call (.Name x p) (e :: es) [] pos) (liftE X.K Z (dB f was)) :=
  PE.of (pe_callTy hc hg hm hv ha hn hdb he hpl) fun _ _ _ h => lift_call hd h
variable {was : DA} {p : Pos}
/-- all whole numbers -/
def intsD : List PyData → Option (List Int)
  | [] => some []
  | .int i :: r => (intsD r).map (i :: ·)
  | _ :: _ => none
def boolsD : List PyData → Option (List Bool)
  | [] => some []
  | .bool i :: r => (boolsD r).map (i :: ·)
  | _ :: _ => none
theorem bools_rel {F : Hp} : ∀ {ds : List PyData} {vs : List V} {ns : List Bool}, DRs K F vs ds → boolsD ds = some ns → vs = ns.map V.bl
  | [], _, _, h, e => by cases h; cases e; rfl
  | .bool i :: r, _, ns, h, e => by
    cases h with
    | cons a b =>
      cases q : boolsD r with
      | none => simp [boolsD, q] at e
      | some ms =>
        simp only [boolsD, q, Option.map_some, Option.some.injEq] at e
        subst e
        cases a.inv_bool
        rw [bools_rel b q]
        rfl
  | .none :: _, _, _, _, e => by simp [boolsD] at e
  | .int _ :: _, _, _, _, e => by simp [boolsD] at e
  | .str _ :: _, _, _, _, e => by simp [boolsD] at e
  | .list _ :: _, _, _, _, e => by simp [boolsD] at e
  | .tuple _ :: _, _, _, _, e => by simp [boolsD] at e
  | .dict _ :: _, _, _, _, e => by simp [boolsD] at e
def nLen (xs : List PyData) (P : PyData → Prop) : Prop := match xs with
  | [.list ds] => P (.int (ds.length : Nat))
  | [.tuple ds] => P (.int (ds.length : Nat))
  | [.str x] => x.length ≤ 100000 ∧ P (.int (x.length : Nat))
  | _ => False
theorem dlen (hm : X.mg "len" = none) (ha : PA X (e :: es) (liftA X.K Z was)) (hg : Gl X "len" := by rfl)
    (he : starEach (e :: es) X.env = (false, eval e X.env) :: starEach es X.env := by rfl) (hpl : (backTo pos (starEach es X.env)).any (·.1) = false := by rfl) : PE X (.Call (.Name "len" p) (e :: es) [] pos) (liftE X.K Z (dB nLen was)) :=
  dcb call_len (fun _ _ g F env σ H vs ds P Q k r f q => by
    unfold nLen at f
    split at f
    · obtain ⟨v, rfl, r0⟩ := r.inv1
      obtain ⟨a, us, rfl, h1, h2⟩ := r0.inv_lst
      exact ⟨_, us.length, rfl, .inl ⟨us, (h1.mono k.fh).sq, rfl⟩, by rw [h2.length]; exact q _ _ F H f (Ex.refl F) k (.int _)⟩
    · obtain ⟨v, rfl, r0⟩ := r.inv1
      obtain ⟨a, us, rfl, h1, h2⟩ := r0.inv_tup
      exact ⟨_, us.length, rfl, .inr ⟨us, Evl.ex_t k.fh h1, rfl⟩, by rw [h2.length]; exact q _ _ F H f (Ex.refl F) k (.int _)⟩
    · obtain ⟨v, rfl, r0⟩ := r.inv1
      cases r0.inv_str
      exact ⟨_, _, rfl, ⟨sz2 f.1, rfl⟩, q _ _ F H f.2 (Ex.refl F) k (.int _)⟩
    · exact f.elim) hm PySem.boot_len ha hg (by decide) (by decide) he hpl
def nAbs (xs : List PyData) (P : PyData → Prop) : Prop := match xs with
  | [.int i] => P (.int (if i < 0 then -i else i))
  | _ => False
theorem dabs (hm : X.mg "abs" = none) (ha : PA X (e :: es) (liftA X.K Z was)) (hg : Gl X "abs" := by rfl)
    (he : starEach (e :: es) X.env = (false, eval e X.env) :: starEach es X.env := by rfl) (hpl : (backTo pos (starEach es X.env)).any (·.1) = false := by rfl) : PE X (.Call (.Name "abs" p) (e :: es) [] pos) (liftE X.K Z (dB nAbs was)) :=
  dcb call_abs (fun _ _ g F env σ H vs ds P Q k r f q => by
    unfold nAbs at f
    split at f
    · obtain ⟨v, rfl, r0⟩ := r.inv1
      cases r0.inv_int
      exact ⟨_, rfl, q _ _ F H f (Ex.refl F) k (.int _)⟩
    · exact f.elim) hm (by decide +kernel) ha hg (by decide) (by decide) he hpl
def nMin2 (xs : List PyData) (P : PyData → Prop) : Prop := match xs with
  | [.int i, .int j] => P (.int (if j < i then j else i))
  | _ => False
def nMax2 (xs : List PyData) (P : PyData → Prop) : Prop := match xs with
  | [.int i, .int j] => P (.int (if j > i then j else i))
  | _ => False
theorem dmin2 (hm : X.mg "min" = none) (hc : X.calm = true) (ha : PA X (e :: es) (liftA X.K Z was)) (hg : Gl X "min" := by rfl)
    (he : starEach (e :: es) X.env = (false, eval e X.env) :: starEach es X.env := by rfl) (hpl : (backTo pos (starEach es X.env)).any (·.1) = false := by rfl) : PE X (.Call (.Name "min" p) (e :: es) [] pos) (liftE X.K Z (dB nMin2 was)) :=
  dcb (call_min2 hc) (fun _ _ g F env σ H vs ds P Q k r f q => by
    unfold nMin2 at f
    split at f
    · obtain ⟨v, w, rfl, r1, r2⟩ := r.inv2
      cases r1.inv_int
      cases r2.inv_int
      exact ⟨_, _, rfl, q _ _ F H f (Ex.refl F) k (.int _)⟩
    · exact f.elim) hm (by decide +kernel) ha hg (by decide) (by decide) he hpl
theorem dmax2 (hm : X.mg "max" = none) (hc : X.calm = true) (ha : PA X (e :: es) (liftA X.K Z was)) (hg : Gl X "max" := by rfl)
    (he : starEach (e :: es) X.env = (false, eval e X.env) :: starEach es X.env := by rfl) (hpl : (backTo pos (starEach es X.env)).any (·.1) = false := by rfl) : PE X (.Call (.Name "max" p) (e :: es) [] pos) (liftE X.K Z (dB nMax2 was)) :=
  dcb (call_max2 hc) (fun _ _ g F env σ H vs ds P Q k r f q => by
    unfold nMax2 at f
    split at f
    · obtain ⟨v, w, rfl, r1, r2⟩ := r.inv2
      cases r1.inv_int
      cases r2.inv_int
      exact ⟨_, _, rfl, q _ _ F H f (Ex.refl F) k (.int _)⟩
    · exact f.elim) hm (by decide +kernel) ha hg (by decide) (by decide) he hpl
def nAll (xs : List PyData) (P : PyData → Prop) : Prop := match xs with
  | [.list ds] => (match boolsD ds with | some bs => P (.bool (bs.all id)) | none => False)
  | _ => False
def nAny (xs : List PyData) (P : PyData → Prop) : Prop := match xs with
  | [.list ds] => (match boolsD ds with | some bs => P (.bool (bs.any id)) | none => False)
  | _ => False
theorem dall (hm : X.mg "all" = none) (hc : X.calm = true) (ha : PA X (e :: es) (liftA X.K Z was)) (hg : Gl X "all" := by rfl)
    (he : starEach (e :: es) X.env = (false, eval e X.env) :: starEach es X.env := by rfl) (hpl : (backTo pos (starEach es X.env)).any (·.1) = false := by rfl) : PE X (.Call (.Name "all" p) (e :: es) [] pos) (liftE X.K Z (dB nAll was)) :=
  dcb (cr_all hc) (fun _ _ g F env σ H vs ds P Q k r f q => by
    unfold nAll at f
    split at f
    · split at f
      · rename_i bs e
        obtain ⟨v, rfl, r0⟩ := r.inv1
        obtain ⟨a, us, rfl, h1, h2⟩ := r0.inv_lst
        cases bools_rel h2 e
        exact ⟨a, bs, rfl, (h1.mono k.fh).sq, q _ _ F H f (Ex.refl F) k (.bl _)⟩
      · exact f.elim
    · exact f.elim) hm (by decide +kernel) ha hg (by decide) (by decide) he hpl
/-- isinstance(x, T), T a built-in type -/
def tyName : PyData → String
  | .none => "NoneType"
  | .bool _ => "bool"
  | .int _ => "int"
  | .str _ => "str"
  | .list _ => "list"
  | .tuple _ => "tuple"
  | .dict [] => "dict"
  | .dict ((.int _, _) :: _) => "dict"
  | .dict ((.str _, _) :: _) => "dict"
  | .dict _ => "list"
def isiB (d : PyData) (T : String) : Bool := (T == tyName d) || (T == "int" && tyName d == "bool")
theorem tyX_of0 {F : Hp} {v : V} {d : PyData} (r : DR K F v d) (hno : ∀ c, d ≠ .dict [(.none, .str c)]) : TyX K F v (.type (tyName d)) := by
  cases r with
  | exc _ _ => exact absurd rfl (hno _)

  | non => exact .base .non
  | bl b => exact .base (.bl b)
  | int i => exact .base (.int i)
  | str x => exact .base (.str x)
  | lst h _ =>
    rcases h with (h | ⟨o, h⟩) | ⟨its, n, h, _⟩
    · exact .base (.lst h)
    · exact .base (.frz h)
    · exact .kList h rfl
  | tup h _ =>
    rcases h.sq with (h | ⟨o, h⟩) | ⟨o, its, n, h, hc, _⟩
    · exact .base (.tup h)
    · exact .fTuple h
    · exact .kTuple h hc
  | dct h m => cases m <;> exact .fDict h
  | row h _ => exact .base (.lst h)
theorem tyX_of {F : Hp} {v : V} {d : PyData} (r : DR K F v d) : TyX K F v (.type (tyName d)) ∨ ∃ a c, v = .ref a ∧ d = .dict [(.none, .str c)] ∧ F a = some (.ext (ExcAt (He.ga K c) a)) ∧ XcF K c := by
  by_cases h : ∃ c, d = .dict [(.none, .str c)]
  · obtain ⟨c, rfl⟩ := h
    cases r with
    | exc h x => exact .inr ⟨_, _, rfl, rfl, h, x⟩
    | dct _ m => cases m
  · exact .inl (tyX_of0 r fun c z => h ⟨c, z⟩)
theorem kit_isi (d : PyData) : ∀ T ∈ exTypes, PySem.W.kitOne K (.type (tyName d)) (.type T) = some (isiB d T) := by
  have h : ∀ N ∈ ["NoneType", "bool", "int", "str", "list", "tuple", "dict"], ∀ T ∈ exTypes, kitB N T = some ((T == N) || (T == "int" && N == "bool")) := by decide +kernel
  intro T hT
  exact kit_ty (h (tyName d) (by unfold tyName; split <;> simp) T hT)
/-- isinstance(e, c), e a caught refusal -/
def rIsE1 (K : PySem.W.Frag) : List V → Hp → VK → Prop := fun xs H Q => ∃ (a C : Addr) (c : V) (u : Value) (b : Bool), xs = [.ref a, c] ∧ ClsV c u ∧ H a = some (.ext (ExcAt C a)) ∧ ExcC K C ∧ PySem.W.kitOne K (.ref C) u = some b ∧ Q (.bl b) H
theorem exc_inst {H : Hp} {s : Shared} {σ : L2.St} {pins : List (Addr × Obj)} {a C : Addr} (I : Inv X pins σ H s) (h : H a = some (.ext (ExcAt C a))) : ∃ oe, PySem.W.InstAt s.heap a oe C none := by
  obtain ⟨⟨oe, vs, h1, h2, h3, h4, _⟩, _⟩ := (show ObjOk X.prog X.w H s.heap a (.ext (ExcAt C a)) from I.hok a _ h)
  obtain ⟨oc, od, oda, osl⟩ := oe
  dsimp only at h2 h3 h4
  subst h2 h3 h4
  exact ⟨_, h1, rfl, rfl, trivial⟩
theorem call_isE1 : CallR X (.builtin "isinstance") (rIsE1 X.K) := by
  intro pins s σ H xs us Q I r h
  obtain ⟨a, C, c, u, b, rfl, k, hH, x, e, q⟩ := h
  obtain ⟨u1, u2, rfl, r1, r2⟩ := vals2 r
  have e2 := k.eq r2
  subst e2
  cases (show u1 = Value.ref a from r1)
  obtain ⟨oe, J⟩ := exc_inst I hH
  exact PySem.W.kia_one (PySem.W.handS_kitx_exc x.hg x.hk x.hs x.hd x.ha x.hn x.ht x.hm) I.kIn J e (fun z => nomatch z) fun tk => ⟨.bl b, H, I.tok tk, rfl, q⟩
theorem CallR.or {f : Value} {r r' : List V → Hp → VK → Prop} (h : CallR X f r) (h' : CallR X f r') : CallR X f (fun xs H Q => r xs H Q ∨ r' xs H Q) := by
  intro pins s σ H xs us Q I rv q
  rcases q with q | q
  · exact h pins s σ H xs us Q I rv q
  · exact h' pins s σ H xs us Q I rv q
abbrev dIsi (T : String) (wa : DE) (env : List SD) (P : PyData → List SD → Prop) : Prop := wa env fun d env' => P (.bool (isiB d T)) env'
theorem disi (T : String) (xT : Str) {p q2 : Pos} (hm : X.mg "isinstance" = none) (hmT : X.mg xT = none) (hvT : bootBuiltins xT = some (.type T)) (hT : T ∈ exTypes) (ha : PE X a (liftE X.K Z wa)) (hg : Gl X "isinstance" := by rfl) (hgT : Gl X xT := by rfl)
    (hnT : xT ≠ "__name__" := by decide) (hdT : (xT == ("__debug__" : Str)) = false := by decide)
    (hs1 : starEach [a, .Name xT q2] X.env = (false, eval a X.env) :: starEach [.Name xT q2] X.env := by rfl) (hs2 : starEach [.Name xT q2] X.env = (false, eval (.Name xT q2) X.env) :: starEach [] X.env := by rfl)
    (hpl : (backTo pos (starEach [Expr.Name xT q2] X.env)).any (·.1) = false := by rfl) : PE X (.Call (.Name "isinstance" p) [a, .Name xT q2] [] pos) (liftE X.K Z (dIsi T wa)) :=
  PE.of (pe_callB (call_isi.or call_isE1) hg hm (by decide +kernel) (pa_cons ha (pa_cons (pe_bltn (v := .ty T) hgT hmT hvT rfl hnT hdT) pa_nil hs2) hs1) (by decide) (by decide) hs1 hpl) fun σ H Q h => by
    obtain ⟨g, F, env, P, k, w, q⟩ := h
    refine ⟨g, F, env, _, k, w, fun d env1 v F1 H1 p e1 k1 r1 => ?_⟩
    rcases tyX_of (drH k1 r1) with ty | ⟨a, c, rfl, rfl, hx, x⟩
    · exact .inl ⟨v, .ty T, _, _, _, rfl, .ty T, ty, kit_isi d T hT, q _ env1 _ F1 H1 p e1 k1 (.bl _)⟩
    · refine .inr ⟨a, _, .ty T, _, false, rfl, .ty T, hx, x.cls, x.six T hT, ?_⟩
      have e : isiB (.dict [(.none, .str c)]) T = false := by
        have : ∀ T ∈ exTypes, isiB (.dict [(.none, .str c)]) T = false := by
          intro T hT
          simp only [exTypes, List.mem_cons, List.not_mem_nil, or_false] at hT
          rcases hT with rfl | rfl | rfl | rfl | rfl <;> rfl
        exact this T hT
      rw [e] at p
      exact q _ env1 _ F1 H1 p e1 k1 (.bl _)
end
end DL

namespace DL
variable {T : List (PySem.Addr × PySem.Str)} {Z : Zx T}
open PySem PySem.Spec PyProof.Rows L2
open Evl (Ex)

abbrev DSp := List SD → (SD → List SD → Prop) → Prop
structure ArgsOk (T : List (Addr × Str)) (K : PySem.W.Frag) (F H : Hp) (vs : List V) (as : List SD) : Prop where
  len : as.length = vs.length
  fh : Ex F H
  dat : ∀ (i : Nat) (d : PyData), as[i]? = some (.dat d) → ∃ v, vs[i]? = some v ∧ DR K F v d
  cel : ∀ (i : Nat) (p : Bool) (xs : List PyData), as[i]? = some (.cel p xs) → p = true ∧ ∃ a us, vs[i]? = some (.ref a) ∧ F a = none ∧ H a = some (.lst us) ∧ DRs K F us xs
  sep : ∀ (i j : Nat) (p q : Bool) (xs ys : List PyData) (a : Addr), as[i]? = some (.cel p xs) → as[j]? = some (.cel q ys) → vs[i]? = some (.ref a) → vs[j]? = some (.ref a) → i = j
  nod : ∀ (i : Nat) (w : Own), as[i]? ≠ some (.dic w)
  tab : LamX.Tabs T H
  nt : ∀ a ps, F a ≠ some (.tbl ps)
structure PostOk (T : List (Addr × Str)) (K : PySem.W.Frag) (F H : Hp) (vs : List V) (as : List SD) (F' H' : Hp) (as' : List SD) (v : V) (r : SD) : Prop where
  ex : Ex F F'
  nt : ∀ a ps, F' a ≠ some (.tbl ps)
  fh : Ex F' H'
  newF : ∀ (a : Addr) (o : HO), F' a = some o → F a = some o ∨ H a = none
  frame : Frm T H (fun a => ∀ (i : Nat) (p : Bool) (xs : List PyData), as[i]? = some (.cel p xs) → vs[i]? ≠ some (.ref a)) H'
  cel : ∀ (i : Nat) (p : Bool) (xs : List PyData) (a : Addr), as[i]? = some (.cel p xs) → vs[i]? = some (.ref a) → ∃ ys us, as'[i]? = some (.cel true ys) ∧ F' a = none ∧ H' a = some (.lst us) ∧ DRs K F' us ys
  res : match r with
    | .un => False
    | .dat d => DR K F' v d
    | .cel _ xs => ∃ a us, v = .ref a ∧ F' a = none ∧ H' a = some (.lst us) ∧ DRs K F' us xs ∧ H a = none
    | .dic _ => False
def spD (T : List (Addr × Str)) (K : PySem.W.Frag) (S : DSp) (vs : List V) (H : Hp) (Q : VK) : Prop := ∃ (F : Hp) (as : List SD) (P : SD → List SD → Prop), ArgsOk T K F H vs as ∧ S as P ∧
  ∀ r as' v F' H', P r as' → PostOk T K F H vs as F' H' as' v r → Q v H'
/-- the def at f keeps its promise of data; n: its parameters; it raises nothing -/
structure FnG (P : Program) (w : World) (K : PySem.W.Frag) (mg : Str → Option Value) (base : Heap) (T : List (Addr × Str)) (k : Nat) (f : Addr) (fd : FuncData) (ps : List Str) (S : DSp) : Prop where
  len : ∀ as Q, S as Q → as.length = ps.length
  go : ∀ (A : Around) (outer : List Env) (s : Shared) (H : Hp) (args : Args) (us : List Value) (vs : List V) (Q : VK), Room k A → A.guards = some [] → Env0 P w K mg base A outer s H →
    BindsTo s fd args (ps.zip us) → Vals vs us → spD T K S vs H Q → codeAny (model P w) A (.call (.ref f) args) (CR CX0 outer P w H s Q E0) s
theorem FnG.mono {P : Program} {w : World} {K : PySem.W.Frag} {mg : Str → Option Value} {base : Heap} {j k : Nat} {f : Addr} {fd : FuncData} {ps : List Str} {S : DSp} (F : FnG P w K mg base T j f fd ps S) (h : j ≤ k) : FnG P w K mg base T k f fd ps S :=
  ⟨F.len, fun A outer s H args us vs Q hr => F.go A outer s H args us vs Q (hr.mono h)⟩
/-- another promise, that follows -/
theorem FnG.imp {P : Program} {w : World} {K : PySem.W.Frag} {mg : Str → Option Value} {base : Heap} {k : Nat} {f : Addr} {fd : FuncData} {ps : List Str} {S S' : DSp} (F : FnG P w K mg base T k f fd ps S) (h : ∀ as Q, S' as Q → S as Q) : FnG P w K mg base T k f fd ps S' :=
  ⟨fun as Q q => F.len as Q (h _ _ q), fun A outer s H args us vs Q hr hg e hb r ⟨F0, as, P, a1, a2, a3⟩ => F.go A outer s H args us vs Q hr hg e hb r ⟨F0, as, P, a1, h _ _ a2, a3⟩⟩
section
variable {K : PySem.W.Frag} {g : Gx Z} {F F' : Hp} {env : List SD} {σ : L2.St} {H H' : Hp}
/-- behind a call without cells -/
theorem Ok.after (k : Ok K g F env σ H) {vs : List V} {as as' : List SD} {v : V} {r : SD} (hc : ∀ (i : Nat) (p : Bool) (xs : List PyData), as[i]? ≠ some (.cel p xs)) (p : PostOk T K F H vs as F' H' as' v r) : Ok K g F' env σ H' ∧ ResOk K g F' env σ H' v r := by
  have fr : ∀ (a : Addr) (o : HO), H a = some o → Sty o (H' a) := fun a o e => p.frame.stay a o e fun i q xs z => absurd z (hc i q xs)
  have keepN : ∀ (a : Addr) (o : HO), H a = some o → F a = none → F' a = none := fun a o e n => by
    cases q : F' a with
    | none => rfl
    | some u =>
      rcases p.newF a u q with z | z
      · rw [n] at z; cases z
      · rw [e] at z; cases z
  refine ⟨⟨k.len, p.fh, fun i d e => ?_, fun i q xs e => ?_, k.sep, k.pin, k.frame.trans p.frame fun a o e n i q xs z => absurd z (hc i q xs), fun a o e => ?_, ⟨fun a o e => p.ex a o (k.oldF.1 a o e), p.nt⟩, fun a o e => ?_, (k.dic.keep p.ex (fun _ _ _ z => z) fun a ys e n => ⟨keepN a _ e n, (fr a _ e).ext.trans e.symm⟩)⟩, ?_⟩
  · obtain ⟨u, h1, h2⟩ := k.dat i d e
    exact ⟨u, h1, h2.mono p.ex⟩
  · obtain ⟨a, us, h1, h2, h3, h4, h5⟩ := k.cel i q xs e
    exact ⟨a, us, h1, keepN a _ h3 h2, (fr a _ h3).lst, h4.mono p.ex, h5⟩
  · rcases p.newF a o e with z | z
    · exact k.newF a o z
    · exact .inr (k.fresh0 z)
  · obtain ⟨z1, z2, z3⟩ := k.prot a o e
    exact ⟨(fr a _ z1).same (g.pl a o e), keepN a _ z1 z2, z3⟩
  · have pr := p.res
    cases r with
    | un => exact pr
    | dat d => exact pr
    | dic kvs => exact pr.elim
    | cel b xs =>
      obtain ⟨a, us, h1, h2, h3, h4, h5⟩ := pr
      refine ⟨a, us, h1, h2, h3, h4, k.fresh0 h5, ?_, fun j q ys e z => ?_⟩
      · cases e : g.Pr a with
        | none => rfl
        | some u =>
          have z := (k.prot a u e).1
          rw [h5] at z
          cases z
      · obtain ⟨a', ws, z1, _, z3, _⟩ := k.cel j q ys e
        rw [z] at z1
        cases z1
        rw [h5] at z3
        cases z3
/-- behind a call whose first argument is the cell of the name i -/
theorem Ok.afterC (k : Ok K g F env σ H) {i : Nat} {p : Bool} {xs : List PyData} {a : Addr} {vs : List V} {ds : List PyData} {as' : List SD} {v : V} {r : SD} (he : env[i]? = some (.cel p xs)) (hs : σ[i]? = some (some (.ref a)))
    (q : PostOk T K F H (.ref a :: vs) (.cel true xs :: ds.map .dat) F' H' as' v r) : ∃ ys rest, as' = .cel true ys :: rest ∧ Ok K g F' (env.set i (.cel p ys)) σ H' ∧ ResOk K g F' (env.set i (.cel p ys)) σ H' v r := by
  obtain ⟨a0, us0, b1, b2, b3, b4, b5, b6⟩ := k.cel i p xs he
  rw [hs] at b1
  cases b1
  obtain ⟨ys, us, c1, c2, c3, c4⟩ := q.cel 0 true xs a rfl rfl
  obtain ⟨rest, rfl⟩ : ∃ rest, as' = .cel true ys :: rest := by
    cases as' with
    | nil => simp at c1
    | cons x rest => simp at c1; subst c1; exact ⟨rest, rfl⟩
  have nc : ∀ (b : Addr), b ≠ a → ∀ (j : Nat) (p' : Bool) (xs' : List PyData), (SD.cel true xs :: ds.map SD.dat)[j]? = some (.cel p' xs') → (V.ref a :: vs)[j]? ≠ some (.ref b) := fun b ne j p' xs' z z2 => by
    cases j with
    | zero => simp at z2; exact ne z2.symm
    | succ j =>
      simp only [List.getElem?_cons_succ, List.getElem?_map] at z
      cases y : ds[j]? with
      | none => rw [y] at z; cases z
      | some d => rw [y] at z; cases z
  have fr : ∀ (b : Addr) (o : HO), H b = some o → b ≠ a → Sty o (H' b) := fun b o e ne => q.frame.stay b o e (nc b ne)
  have keepN : ∀ (b : Addr) (o : HO), H b = some o → F b = none → F' b = none := fun b o e n => by
    cases y : F' b with
    | none => rfl
    | some u =>
      rcases q.newF b u y with z | z
      · rw [n] at z; cases z
      · rw [e] at z; cases z
  have oth : ∀ {j : Nat} {p' : Bool} {zs : List PyData}, (env.set i (SD.cel p ys))[j]? = some (.cel p' zs) → ∃ p2 z2, env[j]? = some (.cel p2 z2) := fun {j p' zs} z => by
    rcases get_set z with ⟨rfl, _⟩ | ⟨_, z⟩
    · exact ⟨_, _, he⟩
    · exact ⟨_, _, z⟩
  refine ⟨ys, rest, rfl, ⟨by simp [k.len], q.fh, fun j d e => ?_, fun j p' zs e => ?_, fun j l p1 p2 z1 z2 c h1 h2 h3 h4 => ?_, fun j b e => ?_, k.frame.trans q.frame (fun b o e n => nc b ?_), fun b o e => ?_, ⟨fun b o e => q.ex b o (k.oldF.1 b o e), q.nt⟩, fun b o e => ?_, ((k.dic.setE (i := i) (x := .cel p ys) fun _ z => by cases z).keep q.ex (fun _ _ _ z => z) fun b zs e n => ⟨keepN b _ e n, (fr b _ e fun z => by rw [z, b3] at e; cases e).ext.trans e.symm⟩)⟩, ?_⟩
  · rcases get_set e with ⟨_, z⟩ | ⟨_, z⟩
    · cases z
    · obtain ⟨u, h1, h2⟩ := k.dat j d z
      exact ⟨u, h1, h2.mono q.ex⟩
  · rcases get_set e with ⟨rfl, z⟩ | ⟨n, z⟩
    · cases z
      exact ⟨a, us, hs, c2, c3, c4, b5, b6⟩
    · obtain ⟨b, ws, h1, h2, h3, h4, h5⟩ := k.cel j _ zs z
      have ne : b ≠ a := fun y => by
        subst y
        exact n (k.sep i j _ _ _ _ b he z hs h1)
      exact ⟨b, ws, h1, keepN b _ h3 h2, (fr b _ h3 ne).lst, h4.mono q.ex, h5⟩
  · obtain ⟨_, _, f1⟩ := oth h1
    obtain ⟨_, _, f2⟩ := oth h2
    exact k.sep j l _ _ _ _ c f1 f2 h3 h4
  · obtain ⟨zs, z⟩ := k.pin j b e
    by_cases n : i = j
    · subst n
      rw [he] at z
      cases z
      exact ⟨ys, set_eq he⟩
    · exact ⟨zs, by rw [set_ne n]; exact z⟩
  · intro z
    subst z
    cases p with
    | true => exact n i (b5 rfl)
    | false =>
      rw [b6 rfl] at e
      cases e
  · rcases q.newF b o e with z | z
    · exact k.newF b o z
    · exact .inr (k.fresh0 z)
  · obtain ⟨z1, z2, z3⟩ := k.prot b o e
    have ne : b ≠ a := fun z => by
      subst z
      exact z3 i p xs he hs
    refine ⟨(fr b _ z1 ne).same (g.pl b o e), keepN b _ z1 z2, fun j p' zs e' => ?_⟩
    obtain ⟨_, _, f1⟩ := oth e'
    exact z3 j _ _ f1
  · have pr := q.res
    cases r with
    | un => exact pr
    | dat d => exact pr
    | dic kvs => exact pr.elim
    | cel b xs2 =>
      obtain ⟨c, ws, h1, h2, h3, h4, h5⟩ := pr
      refine ⟨c, ws, h1, h2, h3, h4, k.fresh0 h5, ?_, fun j p' zs e z => ?_⟩
      · cases e : g.Pr c with
        | none => rfl
        | some u =>
          have z := (k.prot c u e).1
          rw [h5] at z
          cases z
      · obtain ⟨_, _, f1⟩ := oth e
        obtain ⟨a', ws', z1, _, z3, _⟩ := k.cel j _ _ f1
        rw [z] at z1
        cases z1
        rw [h5] at z3
        cases z3
theorem args_dat (hf : Ex F H) (tb : LamX.Tabs T H) (nt : ∀ a ps, F a ≠ some (.tbl ps)) {vs : List V} {ds : List PyData} (r : DRs K F vs ds) : ArgsOk T K F H vs (ds.map .dat) where
  len := by rw [List.length_map]; exact r.length.symm
  fh := hf
  dat := fun i d e => by
    rw [List.getElem?_map] at e
    cases q : ds[i]? with
    | none => rw [q] at e; cases e
    | some x =>
      rw [q] at e
      cases e
      exact r.get q
  cel := fun i p xs e => by
    rw [List.getElem?_map] at e
    cases q : ds[i]? with
    | none => rw [q] at e; cases e
    | some x => rw [q] at e; cases e
  sep := fun i j p q xs ys a e => by
    rw [List.getElem?_map] at e
    cases q : ds[i]? with
    | none => rw [q] at e; cases e
    | some x => rw [q] at e; cases e
  nod := fun i kvs e => by
    rw [List.getElem?_map] at e
    cases q : ds[i]? with
    | none => rw [q] at e; cases e
    | some x => rw [q] at e; cases e
  tab := tb
  nt := nt
theorem no_cel {ds : List PyData} (i : Nat) (p : Bool) (xs : List PyData) : (ds.map SD.dat)[i]? ≠ some (.cel p xs) := fun e => by
  rw [List.getElem?_map] at e
  cases q : ds[i]? with
  | none => rw [q] at e; cases e
  | some x => rw [q] at e; cases e
theorem args_cel (hf : Ex F H) (tb : LamX.Tabs T H) (nt : ∀ a ps, F a ≠ some (.tbl ps)) {a : Addr} {us : List V} {xs : List PyData} {vs : List V} {ds : List PyData} (hF : F a = none) (hH : H a = some (.lst us)) (rx : DRs K F us xs) (r : DRs K F vs ds) : ArgsOk T K F H (.ref a :: vs) (.cel true xs :: ds.map .dat) := by
  have b := args_dat hf tb nt r
  refine ⟨by simp [r.length], hf, fun i d e => ?_, fun i p zs e => ?_, fun i j p q zs ys c e1 e2 _ _ => ?_, fun i kvs e => ?_, tb, nt⟩
  · cases i with
    | zero => simp at e
    | succ i =>
      obtain ⟨v, h1, h2⟩ := b.dat i d (by simpa using e)
      exact ⟨v, by simpa using h1, h2⟩
  · cases i with
    | zero =>
      simp at e
      obtain ⟨rfl, rfl⟩ := e
      exact ⟨rfl, a, us, rfl, hF, hH, rx⟩
    | succ i => exact absurd (by simpa using e) (no_cel (ds := ds) i p zs)
  · cases i with
    | succ i => exact absurd (by simpa using e1) (no_cel (ds := ds) i p zs)
    | zero =>
      cases j with
      | zero => rfl
      | succ j => exact absurd (by simpa using e2) (no_cel (ds := ds) j q ys)
  · cases i with
    | zero => simp at e
    | succ i => exact b.nod i kvs (by simpa using e)
end

section
variable {X : Cx} {k : Nat} {f : Addr} {fd : FuncData} {ps : List Str} {S : DSp} {x : Str} {p pos : Pos} {e : Expr} {es : List Expr} {was : DA}
/-- the callee runs -/
theorem run_g {pins : List (Addr × Obj)} {σ : L2.St} {H : Hp} {s : Shared} {Q : VK} {us : List Value} {vs : List V} (G : FnG X.prog X.w X.K X.mg X.base T k f fd ps S) (hr : Room k X.A) (hg : X.A.guards = some []) (hb : Binds X.K fd ps [])
    (I : Inv X pins σ H s) (r : Vals vs us) (h : spD T X.K S vs H Q) : wpAny (model X.prog X.w) X.A (call (.ref f) us) (EP X pins σ Q) X.xe s := by
  obtain ⟨F0, as, P, a1, a2, a3⟩ := id h
  have hl : (us ++ ([] : List Value)).length = ps.length := by rw [List.append_nil, ← r.length, ← a1.len]; exact G.len _ _ a2
  have hbb := hb s us I.kIn hl
  rw [List.append_nil] at hbb
  refine wpAny_call (codeAny_mono (G.go X.A X.stack s H ⟨us, []⟩ us vs Q hr hg I.env0 hbb r h) fun res s' hq => ?_)
  match res, hq with
  | .error e, hq => exact hq.elim
  | .ok (.ret u), hq => exact I.after hq
  | .ok .next, hq => exact hq.elim
  | .ok .brk, hq => exact hq.elim
  | .ok .cont, hq => exact hq.elim
/-- f(..), all arguments data -/
abbrev dCall (S : DSp) (was : DA) (env : List SD) (P : SD → List SD → Prop) : Prop := was env fun ds env1 => S (ds.map .dat) fun r _ => P r env1
theorem dcall (G : FnG X.prog X.w X.K X.mg X.base T k f fd ps S) (hr : Room k X.A) (hA : X.A.guards = some []) (hm : X.mg x = some (.ref f)) (hk : PySem.W.keepIn X.K (.ref f) = true) (hb : Binds X.K fd ps [])
    (ha : PA X (e :: es) (liftA X.K Z was)) (hg : Gl X x := by rfl) (hdb : (x == ("__debug__" : Str)) = false := by decide)
    (he : starEach (e :: es) X.env = (false, eval e X.env) :: starEach es X.env := by rfl) (hpl : (backTo pos (starEach es X.env)).any (·.1) = false := by rfl) : PE X (.Call (.Name x p) (e :: es) [] pos) (liftX X.K Z (dCall S was)) := by
  refine ⟨fun pins s σ H Q I ⟨g, F, env, P, k0, w, q⟩ => wpAny_Call_Name_kw (ld_glob I hg hm (PySem.W.callWith_K (h₀ := X.base) I.ok.mod.kin hk (thn (ha.run pos pins s σ H (spD T X.K S · · Q) I ?_) fun us s1 ⟨vs, H1, I1, r, q1⟩ => ⟨I1.kIn, run_g G hr hA hb I1 r q1⟩) he hpl) hdb)⟩
  refine ⟨g, F, env, _, k0, w, fun ds env1 vs F1 H1 p1 e1 k1 r1 => ⟨F1, ds.map .dat, _, args_dat k1.fh k1.frame.tab k1.oldF.2 r1, p1, fun r as' v F2 H2 p2 po => ?_⟩⟩
  obtain ⟨k2, r2⟩ := k1.after no_cel po
  exact q r env1 v F2 H2 p2 (e1.trans po.ex) k2 r2
/-- f(x, ..), x the name i's own cell, which f may change -/
abbrev dCallC (S : DSp) (i : Nat) (was : DA) (env : List SD) (P : SD → List SD → Prop) : Prop := match env[i]? with
  | some (.cel _ _) => was env fun ds env1 => match env1[i]? with
    | some (.cel p xs) => S (.cel true xs :: ds.map .dat) fun r as' => match as' with
      | .cel _ ys :: _ => P r (env1.set i (.cel p ys))
      | _ => False
    | _ => False
  | _ => False
theorem dcallC (i : Nat) {y : Str} {p0 : Pos} (G : FnG X.prog X.w X.K X.mg X.base T k f fd ps S) (hr : Room k X.A) (hA : X.A.guards = some []) (hm : X.mg x = some (.ref f)) (hk : PySem.W.keepIn X.K (.ref f) = true) (hb : Binds X.K fd ps [])
    (ha : PA X es (liftA X.K Z was)) (hN : X.N[i]? = some y := by rfl) (hv : Vis X.env.scope y := by first | exact Or.inl rfl | exact Or.inr (Or.inl rfl) | exact Or.inr (Or.inr rfl)) (hd : (y == ("__debug__" : Str)) = false := by decide)
    (hcd : (y == ("__classdict__" : Str)) = false := by decide) (hg : Gl X x := by rfl) (hdb : (x == ("__debug__" : Str)) = false := by decide)
    (he : starEach (.Name y p0 :: es) X.env = (false, eval (.Name y p0) X.env) :: starEach es X.env := by rfl) (hpl : (backTo pos (starEach es X.env)).any (·.1) = false := by rfl) :
    PE X (.Call (.Name x p) (.Name y p0 :: es) [] pos) (liftX X.K Z (dCallC S i was)) := by
  refine ⟨fun pins s σ H Q I ⟨g, F, env, P, k0, w, q⟩ => wpAny_Call_Name_kw (ld_glob I hg hm (PySem.W.callWith_K (h₀ := X.base) I.ok.mod.kin hk (thn ((pa_cons (pe_var hN hv hd hcd) ha he).run pos pins s σ H (spD T X.K S · · Q) I ?_) fun us s1 ⟨vs, H1, I1, r, q1⟩ => ⟨I1.kIn, run_g G hr hA hb I1 r q1⟩) he hpl) hdb)⟩
  unfold dCallC at w
  split at w
  · rename_i p' xs' e0
    obtain ⟨a0, us0, b1, _⟩ := k0.cel i p' xs' e0
    refine ⟨_, b1, g, F, env, _, k0, w, fun ds env1 vs F1 H1 p1 e1 k1 r1 => ?_⟩
    split at p1
    · rename_i p2 xs ex
      obtain ⟨a1, us1, c1, c2, c3, c4, _⟩ := k1.cel i p2 xs ex
      rw [b1] at c1
      cases c1
      refine ⟨F1, _, _, args_cel k1.fh k1.frame.tab k1.oldF.2 c2 c3 c4 r1, p1, fun r as' v F2 H2 p3 po => ?_⟩
      obtain ⟨ys, rest, rfl, k2, r2⟩ := k1.afterC ex b1 po
      exact q r _ v F2 H2 p3 (e1.trans po.ex) k2 r2
    · exact p1.elim
  · exact w.elim
end

structure DEnds where
  nx : List SD → Prop
  rt : SD → List SD → Prop
  bk : List SD → Prop := fun _ => False
  ct : List SD → Prop := fun _ => False
  nol : Bool := false
abbrev DS := DEnds → List SD → Prop
structure Ends4 (K : PySem.W.Frag) (m : Nat) (g : Gx Z) (F : Hp) (P : DEnds) (D : Ends) : Prop where
  nx : ∀ env' σ' F' H', P.nx env' → Ex F F' → Ok K g F' env' σ' H' → D.nx σ' H'
  bk : ∀ env' σ' F' H', P.bk env' → Ex F F' → Ok K g F' env' σ' H' → D.bk σ' H'
  ct : ∀ env' σ' F' H', P.ct env' → Ex F F' → Ok K g F' env' σ' H' → D.ct σ' H'
  rt : ∀ r env' v σ' F' H', P.rt r (env'.take m) → Ex F F' → Ok K g F' env' σ' H' → ResOk K g F' env' σ' H' v r → D.rt v H'
/-- P.nol: no list stood at the def's begin -/
structure EndsOk (K : PySem.W.Frag) (m : Nat) (g : Gx Z) (F : Hp) (P : DEnds) (D : Ends) : Prop extends Ends4 K m g F P D where
  free : P.nol = true → (∀ a, g.F0 a = none) ∧ ∀ F', Ends4 K m g F' P D
theorem EndsOk.four {K : PySem.W.Frag} {m : Nat} {g : Gx Z} {F : Hp} {P : DEnds} {D : Ends} (h : EndsOk K m g F P D) : Ends4 K m g F P D := h.toEnds4
theorem EndsOk.any {K : PySem.W.Frag} {m : Nat} {g : Gx Z} {F : Hp} {P : DEnds} {D : Ends} (h : EndsOk K m g F P D) (n : P.nol = true) (F' : Hp) : EndsOk K m g F' P D := ⟨(h.free n).2 F', h.free⟩
theorem EndsOk.mk4 {K : PySem.W.Frag} {m : Nat} {g : Gx Z} {F : Hp} {P : DEnds} {D : Ends} (h : Ends4 K m g F P D) (n : P.nol = false) : EndsOk K m g F P D := ⟨h, fun z => by rw [n] at z; cases z⟩
def liftS (K : PySem.W.Frag) (Z : Zx T) (m : Nat) (w : DS) : TS := fun D σ H => ∃ (g : Gx Z) (F : Hp) (env : List SD) (P : DEnds), Ok K g F env σ H ∧ w P env ∧ EndsOk K m g F P D
theorem EndsOk.ex {K : PySem.W.Frag} {m : Nat} {g : Gx Z} {F F' : Hp} {P : DEnds} {D : Ends} (h : EndsOk K m g F P D) (e : Ex F F') : EndsOk K m g F' P D :=
  ⟨⟨fun a b c d p x => h.nx a b c d p (e.trans x), fun a b c d p x => h.bk a b c d p (e.trans x), fun a b c d p x => h.ct a b c d p (e.trans x), fun a b c d f g' p x => h.rt a b c d f g' p (e.trans x)⟩, h.free⟩
section
variable {X : Cx} {st : Stmt} {sts : List Stmt} {w w2 : DS} {m : Nat} {e : Expr} {we : DE} {wx : DX} {pos : Pos}
abbrev dNext (E : DEnds) (env : List SD) : Prop := E.nx env
abbrev dSeq (w w2 : DS) (E : DEnds) (env : List SD) : Prop := w { E with nx := w2 E } env
theorem snil : PSs X [] (liftS X.K Z m dNext) := PSs.of pss_nil fun D σ H ⟨g, F, env, P, k, w, q⟩ => q.nx env σ F H w (Ex.refl F) k
theorem scons (h1 : PS X st (liftS X.K Z m w)) (h2 : PSs X sts (liftS X.K Z m w2)) : PSs X (st :: sts) (liftS X.K Z m (dSeq w w2)) := PSs.of (pss_cons h1 h2) fun D σ H ⟨g, F, env, P, k, w, q⟩ =>
  ⟨g, F, env, _, k, w, ⟨⟨fun env' σ' F' H' p e k' => ⟨g, F', env', P, k', p, q.ex e⟩, q.bk, q.ct, q.rt⟩, fun n => ⟨(q.free n).1, fun F2 => ⟨fun env' σ' F' H' p e k' => ⟨g, F', env', P, k', p, q.any n F'⟩, ((q.free n).2 F2).bk, ((q.free n).2 F2).ct, ((q.free n).2 F2).rt⟩⟩⟩⟩
theorem sone (h1 : PS X st (liftS X.K Z m w)) : PSs X [st] (liftS X.K Z m w) := pss_one h1
/-- a name that is no parameter's cell -/
def npB : SD → Bool
  | .cel true _ => false
  | _ => true
def noPar (env : List SD) (i : Nat) : Bool := match env[i]? with
  | some r => npB r
  | none => true
theorem noPar_of {env : List SD} {i : Nat} (h : noPar env i = true) : NoPar env i := fun xs e => by
  unfold noPar at h
  rw [e] at h
  cases h
theorem Ok.setR {K : PySem.W.Frag} {g : Gx Z} {F : Hp} {env : List SD} {σ : L2.St} {H : Hp} {i : Nat} {v : V} {r : SD} (k : Ok K g F env σ H) (hp : noPar env i = true) (h : ResOk K g F env σ H v r) (hr : ∀ xs, r ≠ .cel true xs) : Ok K g F (env.set i r) (σ.set i (some v)) H := by
  cases r with
  | un => exact h.elim
  | dat d => exact k.setD (noPar_of hp) h
  | cel b xs =>
    obtain ⟨a, vs, rfl, h1, h2, h3, h4, h5, h6⟩ := h
    cases b with
    | true => exact absurd rfl (hr xs)
    | false => exact k.setC (noPar_of hp) h1 h2 h3 h4 h5 h6
  | dic kvs => exact h.elim
/-- what a new cell is called -/
def asOwn : SD → SD
  | .cel _ xs => .cel false xs
  | r => r
theorem res_own {K : PySem.W.Frag} {g : Gx Z} {F : Hp} {env : List SD} {σ : L2.St} {H : Hp} {v : V} {r : SD} (h : ResOk K g F env σ H v r) : ResOk K g F env σ H v (asOwn r) := by
  cases r <;> exact h
theorem own_ne {r : SD} (xs : List PyData) : asOwn r ≠ .cel true xs := by
  cases r <;> (intro h; cases h)
/-- name = e -/
abbrev dSet (i : Nat) (wx : DX) (E : DEnds) (env : List SD) : Prop := wx env fun r env1 => bIf (noPar env1 i) (E.nx (env1.set i (asOwn r))) False
theorem sset (i : Nat) {x : Str} {pos' : Pos} (hN : X.N.Nodup) (he : PE X e (liftX X.K Z wx)) (hi : X.N[i]? = some x := by rfl) (hx : Loc X.env.scope x := by first | exact Or.inl rfl | exact Or.inr rfl) (hs : swapsWith e (some (.Name x pos')) pos.line X.env = pure false := by rfl)
    (hf : X.fn x = true ∨ X.env.scope.names.lookup x = some .local := by first | exact .inl rfl | exact .inr rfl) : PS X (.Assign [.Name x pos'] e pos) (liftS X.K Z m (dSet i wx)) := PS.of (ps_set hN hi hx he hs hf) fun D σ H ⟨g, F, env, P, k, w, q⟩ =>
  ⟨g, F, env, _, k, w, fun r env1 v F1 H1 p e1 k1 r1 => q.nx _ _ F1 H1 (bIf_and p).2 e1 (k1.setR (bIf_and p).1 (res_own r1) own_ne)⟩
/-- return e -/
abbrev dRet (m : Nat) (wx : DX) (E : DEnds) (env : List SD) : Prop := wx env fun r env1 => E.rt (asOwn r) (env1.take m)
theorem sret (he : PE X e (liftX X.K Z wx)) : PS X (.Return (some e) pos) (liftS X.K Z m (dRet m wx)) := PS.of (ps_ret he) fun D σ H ⟨g, F, env, P, k, w, q⟩ =>
  ⟨g, F, env, _, k, w, fun r env1 v F1 H1 p e1 k1 r1 => q.rt _ env1 v σ F1 H1 p e1 k1 (res_own r1)⟩
/-- an expression for what it does -/
abbrev dDrop (wx : DX) (E : DEnds) (env : List SD) : Prop := wx env fun _ env1 => E.nx env1
theorem sexpr (he : PE X e (liftX X.K Z wx)) (hs : swapsWith e none pos.line X.env = pure false := by rfl) : PS X (.Expr e pos) (liftS X.K Z m (dDrop wx)) := PS.of (ps_expr he hs) fun D σ H ⟨g, F, env, P, k, w, q⟩ =>
  ⟨g, F, env, _, k, w, fun r env1 v F1 H1 p e1 k1 _ => q.nx env1 σ F1 H1 p e1 k1⟩
abbrev dIfS (t : DT) (w w2 : DS) (E : DEnds) (env : List SD) : Prop := t env fun b env1 => bIf b (w E env1) (w2 E env1)
theorem sif {c : Expr} {a b : List Stmt} {t : DT} (hc : PT X c (liftT X.K Z t)) (ha : PSs X a (liftS X.K Z m w)) (hb : PSs X b (liftS X.K Z m w2)) : PS X (.If c a b pos) (liftS X.K Z m (dIfS t w w2)) := PS.of (ps_if hc ha hb) fun D σ H ⟨g, F, env, P, k, w, q⟩ =>
  ⟨g, F, env, _, k, w, fun b env1 F1 H1 p e1 k1 => by
    cases b with
    | true => exact iteT ⟨g, F1, env1, P, k1, p, q.ex e1⟩
    | false => exact iteF ⟨g, F1, env1, P, k1, p, q.ex e1⟩⟩
theorem Ok.drop {K : PySem.W.Frag} {g : Gx Z} {F : Hp} {env : List SD} {σ : L2.St} {H : Hp} {i : Nat} {xs : List PyData} (k : Ok K g F env σ H) (he : env[i]? = some (.cel false xs)) : ∃ a, σ[i]? = some (some (.ref a)) ∧ Ok K g F (env.set i .un) σ H ∧ ResOk K g F (env.set i .un) σ H (.ref a) (.cel false xs) := by
  obtain ⟨a, vs, h1, h2, h3, h4, _, h6⟩ := k.cel i false xs he
  have np : NoPar env i := fun ys z => by rw [he] at z; cases z
  have k2 := k.setU (o := some (.ref a)) np
  have e : σ.set i (some (.ref a)) = σ := List.ext_getElem? fun j => by
    rw [List.getElem?_set]
    split
    · rename_i z
      subst z
      split
      · exact h1.symm
      · rename_i z
        exact absurd (List.getElem?_eq_some_iff.mp h1).1 z
    · rfl
  rw [e] at k2
  refine ⟨a, h1, k2, a, vs, rfl, h2, h3, h4, h6 rfl, ?_, fun j p ys hj z => ?_⟩
  · cases q : g.Pr a with
    | none => rfl
    | some u => exact absurd h1 ((k.prot a u q).2.2 i false xs he)
  · rcases get_set hj with ⟨_, q⟩ | ⟨n, q⟩
    · cases q
    · exact n (k.sep i j _ _ _ _ a he q h1 z)
/-- slots that are not to be known any more -/
def unS : List Nat → List SD → List SD
  | [], env => env
  | i :: is, env => match env[i]? with
    | some (.dat _) => unS is (env.set i .un)
    | some (.cel false _) => unS is (env.set i .un)
    | _ => unS is env
theorem Ok.unS {K : PySem.W.Frag} {g : Gx Z} {F : Hp} {σ : L2.St} {H : Hp} : ∀ {is : List Nat} {env : List SD}, Ok K g F env σ H → Ok K g F (unS is env) σ H
  | [], _, k => k
  | i :: is, env, k => by
    have go : NoPar env i → Ok K g F (env.set i .un) σ H := fun np => by
      by_cases hi : i < σ.length
      · have k2 := k.setU (o := σ[i]) np
        rw [List.set_getElem_self] at k2
        exact k2
      · have k2 := k.setU (o := none) np
        rw [show σ.set i none = σ from List.set_eq_of_length_le (Nat.le_of_not_lt hi)] at k2
        exact k2
    unfold DL.unS
    split
    · rename_i d e
      exact (go fun xs z => by rw [e] at z; cases z).unS
    · rename_i xs e
      exact (go fun ys z => by rw [e] at z; cases z).unS
    · exact k.unS
abbrev dForget (is : List Nat) (w : DS) (E : DEnds) (env : List SD) : Prop := w E (unS is env)
theorem ssforget (is : List Nat) (h : PSs X sts (liftS X.K Z m w)) : PSs X sts (liftS X.K Z m (dForget is w)) := PSs.of h fun D σ H ⟨g, F, env, P, k, w, q⟩ => ⟨g, F, _, P, k.unS, w, q⟩
end
end DL

namespace DL
variable {T : List (PySem.Addr × PySem.Str)} {Z : Zx T}
open PySem PySem.Spec PyProof.Rows L2
open Evl (Ex)

section
variable {X : Cx} {st : Stmt} {sts : List Stmt} {w w2 : DS} {m : Nat} {a b e : Expr} {es : List Expr} {wa wb we : DE} {wx : DX} {pos : Pos} {was : DA}
abbrev DG := PyData → List SD → (List SD → Prop) → Prop
/-- what goes to a target; with b (a tuple as the target) the tuple's object needn't be known -/
def DRw (K : PySem.W.Frag) (b : Bool) (F : Hp) (v : V) (d : PyData) : Prop := DR K F v d ∨ (b = true ∧ ∃ T xs ds, v = .ref T ∧ d = .tuple ds ∧ SqT K F T xs ∧ DRs K F xs ds)
theorem DRw.tup {K : PySem.W.Frag} {b : Bool} {F : Hp} {v : V} {ds : List PyData} (h : DRw K b F v (.tuple ds)) : ∃ a xs, v = .ref a ∧ SqT K F a xs ∧ DRs K F xs ds := by
  rcases h with h | ⟨_, T, xs, es, h1, h2, h3, h4⟩
  · exact h.inv_tup
  · cases h2
    exact ⟨T, xs, h1, h3, h4⟩
theorem DRw.non {K : PySem.W.Frag} {F : Hp} {v : V} {d : PyData} (h : DRw K false F v d) : DR K F v d := by
  rcases h with h | ⟨h, _⟩
  · exact h
  · cases h
def liftG (K : PySem.W.Frag) (Z : Zx T) (b : Bool) (w : DG) : TG := fun v σ H Q => ∃ (g : Gx Z) (F : Hp) (env : List SD) (d : PyData) (P : List SD → Prop), Ok K g F env σ H ∧ DRw K b F v d ∧ w d env P ∧
  ∀ env' σ' F' H', P env' → Ex F F' → Ok K g F' env' σ' H' → Q σ' H'
abbrev DGs := List PyData → List SD → (List SD → Prop) → Prop
def liftGs (K : PySem.W.Frag) (Z : Zx T) (w : DGs) : TGs := fun vs σ H Q => ∃ (g : Gx Z) (F : Hp) (env : List SD) (ds : List PyData) (P : List SD → Prop), Ok K g F env σ H ∧ DRs K F vs ds ∧ w ds env P ∧
  ∀ env' σ' F' H', P env' → Ex F F' → Ok K g F' env' σ' H' → Q σ' H'
theorem PG.of {t t' : TG} (h : PG X e t) (w : ∀ v σ H Q, t' v σ H Q → t v σ H Q) : PG X e t' := ⟨fun pins s σ H v u Q I r q => h.run pins s σ H v u Q I r (w v σ H Q q)⟩
theorem PGs.of {t t' : TGs} (h : PGs X es t) (w : ∀ v σ H Q, t' v σ H Q → t v σ H Q) : PGs X es t' := ⟨fun pins s σ H v u Q I r q => h.run pins s σ H v u Q I r (w v σ H Q q)⟩
def dgN (i : Nat) (d : PyData) (env : List SD) (P : List SD → Prop) : Prop := bIf (noPar env i) (P (env.set i (.dat d))) False
theorem gn (i : Nat) {x : Str} (hN : X.N.Nodup) (hi : X.N[i]? = some x := by rfl) (hx : Loc X.env.scope x := by first | exact Or.inl rfl | exact Or.inr rfl)
    (hf : X.fn x = true ∨ X.env.scope.names.lookup x = some .local := by first | exact .inl rfl | exact .inr rfl) : PG X (.Name x pos) (liftG X.K Z false (dgN i)) := PG.of (pg_name hN hi hx hf) fun v σ H Q ⟨g, F, env, d, P, k, r, w, q⟩ =>
  q _ _ F H (bIf_and w).2 (Ex.refl F) (k.setD (noPar_of (bIf_and w).1) r.non)
def nilQ (ds : List PyData) (p : Prop) : Prop := match ds with
  | [] => p
  | _ :: _ => False
def consQ (ds : List PyData) (K : PyData → List PyData → Prop) : Prop := match ds with
  | d :: r => K d r
  | [] => False
def tupQ (d : PyData) (K : List PyData → Prop) : Prop := match d with
  | .tuple ds => K ds
  | _ => False
theorem nilQ_inv {ds : List PyData} {p : Prop} (h : nilQ ds p) : ds = [] ∧ p := by
  cases ds
  · exact ⟨rfl, h⟩
  · exact h.elim
theorem consQ_inv {ds : List PyData} {K : PyData → List PyData → Prop} (h : consQ ds K) : ∃ d r, ds = d :: r ∧ K d r := by
  cases ds
  · exact h.elim
  · exact ⟨_, _, rfl, h⟩
theorem tupQ_inv {d : PyData} {K : List PyData → Prop} (h : tupQ d K) : ∃ ds, d = .tuple ds ∧ K ds := by
  cases d <;> first | exact ⟨_, rfl, h⟩ | exact h.elim
def dgNil (ds : List PyData) (env : List SD) (P : List SD → Prop) : Prop := nilQ ds (P env)
def dgCons (t : DG) (u : DGs) (ds : List PyData) (env : List SD) (P : List SD → Prop) : Prop := consQ ds fun d r => t d env fun env1 => u r env1 P
theorem gnil : PGs X [] (liftGs X.K Z dgNil) := PGs.of pgs_nil fun v σ H Q ⟨g, F, env, ds, P, k, r, w, q⟩ => by
  obtain ⟨rfl, w⟩ := nilQ_inv w
  cases r
  exact ⟨rfl, q env σ F H w (Ex.refl F) k⟩
theorem gcons {t : DG} {u : DGs} {bb : Bool} (h1 : PG X e (liftG X.K Z bb t)) (h2 : PGs X es (liftGs X.K Z u)) (hs : (assignEach (e :: es) X.env).map (·.2) = assign e X.env :: (assignEach es X.env).map (·.2) := by rfl) : PGs X (e :: es) (liftGs X.K Z (dgCons t u)) :=
  PGs.of (pgs_cons h1 h2 hs) fun v σ H Q ⟨g, F, env, ds, P, k, r, w, q⟩ => by
    obtain ⟨d, r0, rfl, w⟩ := consQ_inv w
    cases r with
    | cons r1 r2 =>
        exact ⟨_, _, rfl, g, F, env, _, _, k, .inl r1, w, fun env1 σ1 F1 H1 p e1 k1 => ⟨g, F1, env1, _, P, k1, r2.mono e1, p, fun env2 σ2 F2 H2 p2 e2 k2 => q env2 σ2 F2 H2 p2 (e1.trans e2) k2⟩⟩
def dgT (n : Nat) (t : DGs) (d : PyData) (env : List SD) (P : List SD → Prop) : Prop := tupQ d fun ds => t ds env P
/-- a target that takes a datum goes on -/
def GOk (t : DG) : Prop := ∀ d env P, t d env P → ∃ env1, P env1
def GLen (t : DGs) (n : Nat) : Prop := ∀ ds env P, t ds env P → ds.length = n ∧ ∃ env1, P env1
theorem gok_n {i : Nat} : GOk (dgN i) := fun d env P h => ⟨_, (bIf_and h).2⟩
theorem gl_nil : GLen dgNil 0 := fun ds env P h => by
  obtain ⟨rfl, h⟩ := nilQ_inv h
  exact ⟨rfl, env, h⟩
theorem gl_cons {t : DG} {u : DGs} {n : Nat} (h1 : GOk t) (h2 : GLen u n) : GLen (dgCons t u) (n + 1) := fun ds env P h => by
  obtain ⟨d, r, rfl, h⟩ := consQ_inv h
  obtain ⟨env1, h⟩ := h1 _ _ _ h
  obtain ⟨e, h⟩ := h2 _ _ _ h
  exact ⟨by simp [e], h⟩
theorem gtup {k n : Nat} {t : DGs} (hl : GLen t n) (hc : X.calm = true) (h : PGs X es (liftGs X.K Z t)) (hn : (assignEach es X.env).length = n := by rfl) (hst : (assignEach es X.env).findIdx? (·.1) = none := by rfl) : PG X (.Tuple es k pos) (liftG X.K Z true (dgT n t)) :=
  PG.of (pg_tup hc h hn hst) fun v σ H Q ⟨g, F, env, d, P, k, r, w, q⟩ => by
    obtain ⟨ds, rfl, w⟩ := tupQ_inv w
    obtain ⟨a, xs, rfl, h1, h2⟩ := r.tup
    exact ⟨a, xs, rfl, Evl.ex_t k.fh h1, h2.length.trans (hl _ _ _ w).1, g, F, env, _, P, k, h2, w, q⟩
/-- target = e, of a datum -/
abbrev dAsg (t : DG) (we : DE) (E : DEnds) (env : List SD) : Prop := we env fun d env1 => t d env1 E.nx
theorem sasg {tg : Expr} {t : DG} {bb : Bool} (he : PE X e (liftE X.K Z we)) (hg : PG X tg (liftG X.K Z bb t)) (hs : swapsWithSole [tg] e pos.line X.env = pure false := by rfl) (hw : swappedStores [tg] e X.env = pure none := by rfl)
    (h1 : (assignEach [tg] X.env).map (·.2) = [assign tg X.env] := by rfl) : PS X (.Assign [tg] e pos) (liftS X.K Z m (dAsg t we)) := PS.of (ps_asg he hg hs hw h1) fun D σ H ⟨g, F, env, P, k, w, q⟩ =>
  ⟨g, F, env, _, k, w, fun d env1 v F1 H1 p e1 k1 r1 => ⟨g, F1, env1, d, _, k1, .inl r1, p, fun env2 σ2 F2 H2 p2 e2 k2 => q.nx env2 σ2 F2 H2 p2 (e1.trans e2) k2⟩⟩
/-- x, y = e, f -/
abbrev dPar (i j : Nat) (was : DA) (E : DEnds) (env : List SD) : Prop := was env fun ds env1 => match ds with
  | [d, c] => bIf (noPar env1 i && noPar env1 j) (E.nx ((env1.set i (.dat d)).set j (.dat c))) False
  | _ => False
theorem noPar_set {env : List SD} {i j : Nat} {d : PyData} (h : noPar env j = true) : noPar (env.set i (.dat d)) j = true := by
  unfold noPar at h ⊢
  rw [List.getElem?_set]
  by_cases z : i = j
  · rw [if_pos z]
    by_cases y : i < env.length
    · rw [if_pos y]
      rfl
    · rw [if_neg y]
  · rw [if_neg z]
    exact h
theorem spar (i j : Nat) {x y : Str} {px py pt : Pos} {kt k2 pt2} (hc : X.calm = true) (hN : X.N.Nodup) (ha : PA X [a, b] (liftA X.K Z was)) (hi : X.N[i]? = some x := by rfl) (hj : X.N[j]? = some y := by rfl) (hij : i ≠ j := by decide)
    (hx : X.env.scope.names.lookup x = some .local := by rfl) (hy : X.env.scope.names.lookup y = some .local := by rfl)
    (hw : swappedStores [.Tuple [.Name x px, .Name y py] kt pt] (.Tuple [a, b] k2 pt2) X.env = pure (some [x, y]) := by rfl)
    (hs : swapsWithSole [.Tuple [.Name x px, .Name y py] kt pt] (.Tuple [a, b] k2 pt2) pos.line X.env = pure false := by rfl) :
    PS X (.Assign [.Tuple [.Name x px, .Name y py] kt pt] (.Tuple [a, b] k2 pt2) pos) (liftS X.K Z m (dPar i j was)) := PS.of (ps_par hc hN hi hj hij hx hy ha hw hs) fun D σ H ⟨g, F, env, P, k, w, q⟩ =>
  ⟨g, F, env, _, k, w, fun ds env1 vs F1 H1 p e1 k1 r1 => by
    split at p
    · obtain ⟨v, u, rfl, r2, r3⟩ := r1.inv2
      obtain ⟨np, p⟩ := bIf_and p
      rw [Bool.and_eq_true] at np
      exact ⟨v, u, rfl, q.nx _ _ F1 H1 p e1 ((k1.setD (noPar_of np.1) r2).setD (noPar_of (noPar_set np.2)) r3)⟩
    · exact p.elim⟩
/-- x[i] = e, x the name's own cell -/
def stQ (xs : List PyData) (y d : PyData) (K : List PyData → Prop) : Prop := match y with
  | .int n => (match ixN xs.length n with
    | some j => K (xs.set j d)
    | none => False)
  | _ => False
abbrev dSetC (i : Nat) (wi we : DE) (E : DEnds) (env : List SD) : Prop := we env fun d env1 => match env1[i]? with
  | some (.cel _ _) => wi env1 fun y env2 => match env2[i]? with
    | some (.cel p xs) => stQ xs y d fun xs' => E.nx (env2.set i (.cel p xs'))
    | _ => False
  | _ => False
theorem ssetC (i : Nat) {x : Str} {p0 p1 : Pos} (he : PE X e (liftE X.K Z we)) (hi : PE X b (liftE X.K Z wb)) (hN : X.N[i]? = some x := by rfl) (hv : Vis X.env.scope x := by first | exact Or.inl rfl | exact Or.inr (Or.inl rfl) | exact Or.inr (Or.inr rfl)) (hd : (x == ("__debug__" : Str)) = false := by decide)
    (hcd : (x == ("__classdict__" : Str)) = false := by decide)
    (hs : swapsWithSole [.Subscript (.Name x p0) b p1] e pos.line X.env = pure false := by rfl) (hw : swappedStores [.Subscript (.Name x p0) b p1] e X.env = pure none := by rfl)
    (h1 : (assignEach [.Subscript (.Name x p0) b p1] X.env).map (·.2) = [assign (.Subscript (.Name x p0) b p1) X.env] := by rfl)
    (ha : ∀ v, assign (.Subscript (.Name x p0) b p1) X.env v = (do
      let ov ← holding [v] (eval (.Name x p0) X.env)
      let iv ← holding [v, ov] (eval b X.env)
      standAt p1
      holding [v, ov, iv] (setItem ov iv v)
      release [v, ov, iv] []) := by intro _; rfl) : PS X (.Assign [.Subscript (.Name x p0) b p1] e pos) (liftS X.K Z m (dSetC i wb we)) :=
  PS.of (ps_asg he (pg_sub (pe_var hN hv hd hcd) hi set_list ha) hs hw h1) fun D σ H ⟨g, F, env, P, k, w, q⟩ =>
  ⟨g, F, env, _, k, w, fun d env1 v F1 H1 p e1 k1 r1 => by
    split at p
    · rename_i p' xs' ex
      obtain ⟨a0, us0, b1, _⟩ := k1.cel i p' xs' ex
      refine ⟨_, b1, g, F1, env1, _, k1, p, fun d2 env2 v2 F2 H2 p2 e2 k2 r2 => ?_⟩
      split at p2
      · rename_i p3 xs ex2
        obtain ⟨n, rfl, p2⟩ : ∃ n, d2 = .int n ∧ stQ xs (.int n) d _ := by
          cases d2 <;> first | exact ⟨_, rfl, p2⟩ | exact p2.elim
        cases r2.inv_int
        unfold stQ at p2
        dsimp only at p2
        split at p2
        · rename_i j ej
          obtain ⟨a1, us1, c1, c2, c3, c4, _⟩ := k2.cel i p3 xs ex2
          rw [b1] at c1
          cases c1
          exact ⟨a0, us1, n, j, rfl, rfl, c3, by rw [c4.length]; exact ej, q.nx _ σ F2 _ p2 (e1.trans e2) (k2.write ex2 b1 (c4.set j (r1.mono e2)))⟩
        · exact p2.elim
      · exact p2.elim
    · exact p.elim⟩
/-- x.append(e) -/
def apQ (xs : List PyData) (d : PyData) (K : List PyData → Prop) : Prop := xs.length < 100000 ∧ K (xs ++ [d])
abbrev RT := SD → List SD → Prop
def decP {I S : Type} (is : List Nat) (dec : List SD → Option (I × S)) (N : I → S → Prop) (env : List SD) : Prop := match dec (unS is env) with
  | some (i, s) => N i s
  | none => False
theorem decP_inv {I S : Type} {is : List Nat} {dec : List SD → Option (I × S)} {N : I → S → Prop} {env : List SD} (h : decP is dec N env) : ∃ i s, dec (unS is env) = some (i, s) ∧ N i s := by
  unfold decP at h
  split at h
  · exact ⟨_, _, ‹_›, h⟩
  · exact h.elim
/-- the state behind: what a loop doesn't change stays -/
def same {I S : Type} (i : I) (N : S → Prop) (i' : I) (s : S) : Prop := i' = i ∧ N s
def qWhileN {I S : Type} (b : I → S → (I → S → Prop) → (I → S → Prop) → Prop) (i : I) : Nat → S → (S → Prop) → Prop
  | 0, _, _ => False
  | n + 1, s, K => b i s (same i fun s => qWhileN b i n s K) (same i K)
def qWhile {I S : Type} (b : I → S → (I → S → Prop) → (I → S → Prop) → Prop) (i : I) (s : S) (K : S → Prop) : Prop := ∃ n, qWhileN b i n s K
abbrev dWhileQ {κ I S : Type} (is : List Nat) (dec : List SD → Option (I × S)) (emb : I → S → List SD) (kk : RT → κ) (qb : κ → I → S → (I → S → Prop) → (I → S → Prop) → Prop) (E : DEnds) (env : List SD) : Prop :=
  decP is dec (fun i s => qWhile (qb (kk E.rt)) i s fun s => E.nx (emb i s)) env
theorem swhileQ {κ I S : Type} (is : List Nat) (dec : List SD → Option (I × S)) (emb : I → S → List SD) (kk : RT → κ) (qb : κ → I → S → (I → S → Prop) → (I → S → Prop) → Prop)
    (hde : ∀ env i s, dec env = some (i, s) → env = emb i s) {c : Expr} {body : List Stmt} {t : DT} (hp : PassesOwn (model X.prog X.w) X.A X.env X.xe) (hc : PT X c (liftT X.K Z t)) (hb : PSs X body (liftS X.K Z m w))
    (hq : ∀ (R : RT) (i : I) (s : S) (nx bk : I → S → Prop), qb (kk R) i s nx bk → t (emb i s) fun b env1 => bIf b (w { nx := decP is dec nx, ct := decP is dec nx, bk := decP is dec bk, rt := R } env1) (decP is dec bk env1)) :
    PS X (.While c body [] pos) (liftS X.K Z m (dWhileQ is dec emb kk qb)) :=
  PS.of (ps_while hp hc hb) fun D σ H ⟨g, F, env, P, k, w0, q⟩ => by
    obtain ⟨i0, s0, d0, n, w0⟩ := decP_inv w0
    have fin : ∀ {env' : List SD} {σ' : L2.St} {F' H' : Hp}, decP is dec (same i0 fun s => P.nx (emb i0 s)) env' → Ex F F' → Ok X.K g F' env' σ' H' → D.nx σ' H' := fun {env' σ' F' H'} p e k => by
      obtain ⟨i, s, d, rfl, p⟩ := decP_inv p
      have k2 := k.unS (is := is)
      rw [hde _ _ _ d] at k2
      exact q.nx _ _ _ _ p e k2
    refine ⟨fun m σ' H' => ∃ env' F', Ex F F' ∧ Ok X.K g F' env' σ' H' ∧ decP is dec (same i0 fun s => qWhileN (qb (kk P.rt)) i0 m s fun s => P.nx (emb i0 s)) env', ⟨n, env, F, Ex.refl F, k, by unfold decP; rw [d0]; exact ⟨rfl, w0⟩⟩, fun m σ' H' ⟨env', F', e1, k1, w1⟩ => ?_⟩
    obtain ⟨i, s, d, rfl, w1⟩ := decP_inv w1
    have k2 := k1.unS (is := is)
    rw [hde _ _ _ d] at k2
    cases m with
    | zero => exact w1.elim
    | succ m =>
      refine ⟨g, F', _, _, k2, hq P.rt i s _ _ w1, fun b env2 F2 H2 p2 e2 k2 => ?_⟩
      cases b with
      | false => exact iteF (fin p2 (e1.trans e2) k2)
      | true =>
        refine iteT ⟨fun σ3 H3 => ∃ env' F', Ex F F' ∧ Ok X.K g F' env' σ3 H3 ∧ decP is dec (same i fun s => qWhileN (qb (kk P.rt)) i m s fun s => P.nx (emb i s)) env', fun σ3 H3 h3 => ⟨m, Nat.lt_succ_self m, h3⟩, g, F2, env2, _, k2, p2, ?_⟩
        have e12 := e1.trans e2
        exact .mk4 (.mk (fun env3 σ3 F3 H3 p3 e3 k3 => ⟨env3, F3, e12.trans e3, k3, p3⟩) (fun env3 σ3 F3 H3 p3 e3 k3 => fin p3 (e12.trans e3) k3) (fun env3 σ3 F3 H3 p3 e3 k3 => ⟨env3, F3, e12.trans e3, k3, p3⟩) (fun r env3 v σ3 F3 H3 p3 e3 k3 r3 => q.rt r env3 v σ3 F3 H3 p3 (e12.trans e3) k3 r3)) rfl
abbrev DI := List SD → (List PyData → List SD → Prop) → Prop
def Yld (K : PySem.W.Frag) (b : Bool) (F H : Hp) (x : V) (H' : Hp) (d : PyData) : Prop := (H' = H ∧ DR K F x d) ∨ b = true ∧ ∃ T xs ds, x = .ref T ∧ H T = none ∧ H' = upd H T (.tup xs) ∧ d = .tuple ds ∧ DRs K F xs ds
structure WalkD (K : PySem.W.Frag) (b : Bool) (F : Hp) (J : It) (items : List PyData) : Prop where
  ex : ∃ G Y, Walk J items.length G Y ∧ (∀ H, Ex F H → G H) ∧ ∀ i H x H' d, Ex F H → items[i]? = some d → Y i H x H' → Yld K b F H x H' d
def liftI (K : PySem.W.Frag) (Z : Zx T) (b : Bool) (w : DI) : TI := fun σ H R => ∃ (g : Gx Z) (F : Hp) (env : List SD) (P : List PyData → List SD → Prop), Ok K g F env σ H ∧ w env P ∧
  ∀ items env' J F' H', P items env' → Ex F F' → Ok K g F' env' σ H' → WalkD K b F' J items → R J H'
theorem PI.of {tg e : Expr} {t t' : TI} (h : PI X tg e t) (w : ∀ σ H R, t' σ H R → t σ H R) : PI X tg e t' := ⟨fun pins s σ H R I q => h.run pins s σ H R I (w σ H R q)⟩
theorem Ok.yld {K : PySem.W.Frag} {b : Bool} {g : Gx Z} {F F0 : Hp} {env : List SD} {σ : L2.St} {H H' : Hp} {x : V} {d : PyData} (k : Ok K g F env σ H) (e : Ex F0 F) (y : Yld K b F0 H x H' d) : ∃ F', Ex F F' ∧ Ok K g F' env σ H' ∧ DRw K b F' x d := by
  rcases y with ⟨rfl, r⟩ | ⟨hb, T, xs, ds, rfl, hT, rfl, rfl, r⟩
  · exact ⟨F, Ex.refl F, k, .inl (r.mono e)⟩
  · have ex : Ex F (upd F T (.tup xs)) := Ex.new (fnone k.fh hT)
    exact ⟨_, ex, k.alloc hT, .inr ⟨hb, T, xs, ds, rfl, rfl, SqT.of upd_same, (r.mono e).mono ex⟩⟩
/-- lo, lo + 1, .. -/
def rangeD (lo : Int) (n : Nat) : List PyData := (List.range n).map fun (i : Nat) => .int (lo + i)
theorem walkD_range {K : PySem.W.Frag} {b : Bool} {F : Hp} (lo : Int) (n : Nat) : WalkD K b F (Itr lo n) (rangeD lo n) := by
  refine ⟨fun _ => True, YFn fun i => .int (lo + i), by rw [show (rangeD lo n).length = n by simp [rangeD]]; exact walk_range, fun _ _ => trivial, fun i H x H' d _ e y => .inl ⟨y.1, ?_⟩⟩
  have y2 := y.2
  subst y2
  unfold rangeD at e
  rw [List.getElem?_map] at e
  by_cases hi : i < n
  · rw [List.getElem?_range hi] at e
    cases e
    exact .int _
  · rw [List.getElem?_eq_none (by simp; omega)] at e
    cases e
abbrev QI := List PyData → (List PyData → Prop) → Prop
/-- what is walked, by arguments -/
abbrev dIt (f : QI) (was : DA) (env : List SD) (P : List PyData → List SD → Prop) : Prop := was env fun ds env' => f ds fun items => P items env'
/-- K of l, sealed: the kernel doesn't look at what is walked -/
inductive At (l : List PyData) (K : List PyData → Prop) : Prop
  | mk : K l → At l K
theorem At.out {l : List PyData} {K : List PyData → Prop} (h : At l K) : K l := by
  cases h with
  | mk h => exact h
theorem At.eq {l : List PyData} {K : List PyData → Prop} : At l K = K l := propext ⟨At.out, At.mk⟩
def rng1 (ds : List PyData) (K : List PyData → Prop) : Prop := match ds with
  | [.int n] => (-1000000 ≤ n ∧ n ≤ 1000000) ∧ At (rangeD 0 n.toNat) K
  | _ => False
def rng2 (ds : List PyData) (K : List PyData → Prop) : Prop := match ds with
  | [.int m, .int n] => (-1000000 ≤ m ∧ m ≤ 1000000 ∧ -1000000 ≤ n ∧ n ≤ 1000000) ∧ At (rangeD m (n - m).toNat) K
  | _ => False
theorem irange1 {tg : Expr} {bb : Bool} {p : Pos} (hm : X.mg "range" = none) (ha : PA X [a] (liftA X.K Z was)) (hg : Gl X "range" := by rfl) (hs : starEach [a] X.env = [(false, eval a X.env)] := by rfl) : PI X tg (.Call (.Name "range" p) [a] [] pos) (liftI X.K Z bb (dIt rng1 was)) :=
  PI.of (pi_range1 hg hm ha hs) fun σ H R ⟨g, F, env, P, k, w, q⟩ => ⟨g, F, env, _, k, w, fun ds env1 vs F1 H1 p e1 k1 r1 => by
    unfold rng1 at p
    split at p
    · obtain ⟨v, rfl, r2⟩ := r1.inv1
      cases r2.inv_int
      have p1 := p.1
      exact ⟨_, rfl, by omega, by omega, q _ env1 _ F1 H1 p.2.out e1 k1 (walkD_range 0 _)⟩
    · exact p.elim⟩
theorem walkD_list {K : PySem.W.Frag} {bb : Bool} {F : Hp} {a : Addr} {xs : List V} {ds : List PyData} (h : RdL K F a xs) (r : DRs K F xs ds) : WalkD K bb F (Itl K a) ds :=
  ⟨fun H => SqL K H a xs, YAt xs, by rw [← r.length]; exact walk_list (xs := xs), fun H e => (h.mono e).sq, fun i H x H' d _ e y => .inl ⟨y.1, by
    obtain ⟨v, h1, h2⟩ := r.get e
    have y2 := y.2
    rw [h1] at y2
    cases y2
    exact h2⟩⟩
theorem walkD_tup {K : PySem.W.Frag} {bb : Bool} {F : Hp} {a : Addr} {xs : List V} {ds : List PyData} (h : SqT K F a xs) (r : DRs K F xs ds) : WalkD K bb F (Itt K a) ds :=
  ⟨fun H => SqT K H a xs, YAt xs, by rw [← r.length]; exact walk_tup (xs := xs), fun H e => Evl.ex_t e h, fun i H x H' d _ e y => .inl ⟨y.1, by
    obtain ⟨v, h1, h2⟩ := r.get e
    have y2 := y.2
    rw [h1] at y2
    cases y2
    exact h2⟩⟩
/-- a text's signs -/
@[irreducible] def signsD (x : Str) : List PyData := x.cps.toList.map fun c => .str ⟨#[c]⟩
theorem walkD_str {K : PySem.W.Frag} {bb : Bool} {F : Hp} (x : Str) : WalkD K bb F (Its x) (signsD x) :=
  ⟨fun _ => True, fun i H v H' => H' = H ∧ ∃ c, x.cps[i]? = some c ∧ v = .str ⟨#[c]⟩, by rw [show (signsD x).length = x.cps.size by unfold signsD; simp]; exact walk_str, fun _ _ => trivial, fun i H v H' d _ e y => .inl ⟨y.1, by
    obtain ⟨c, h1, rfl⟩ := y.2
    unfold signsD at e
    rw [List.getElem?_map, Array.getElem?_toList, h1] at e
    cases e
    exact .str _⟩⟩
/-- over a list, a tuple or a text -/
def iSeq (K : PySem.W.Frag) (tl : TE) : TI := fun σ H R => tl σ H fun x H1 => (∃ a, x = .ref a ∧ ((∃ xs, SqL K H1 a xs ∧ R (Itl K a) H1) ∨ ∃ xs, SqT K H1 a xs ∧ R (Itt K a) H1)) ∨ ∃ z, x = .str z ∧ R (Its z) H1
theorem pi_seq {tg l : Expr} {tl : TE} (hl : PE X l tl) : PI X tg l (iSeq X.K tl) := by
  refine ⟨fun pins s σ H R I h => thn (hl.run pins s σ H _ I h) fun v s1 ⟨x, H1, I1, r1, q1⟩ => ?_⟩
  rcases q1 with ⟨a, ea, q1⟩ | ⟨z, ez, q⟩
  · subst ea
    cases r1
    have fo : ∀ b ∈ [s1.heap.objs.size], FpOk X pins H1 b := fun b hb => by
      rw [List.mem_singleton.mp hb]
      exact I1.fpOk (Nat.le_refl _) (I1.hok.fresh (Nat.le_refl _))
    rcases q1 with ⟨xs, hq, q⟩ | ⟨xs, hq, q⟩
    · obtain ⟨its, rv, pl, hz⟩ := I1.list hq
      exact wpAny_pyIter_list pl.isList ⟨s1.heap.objs.size, [s1.heap.objs.size], _, _, H1, rfl, I1.kept (t' := s1.toks) (fun b o e => Heap.get?_push_of_some _ e), turn_list a _, ⟨_, Heap.get?_push_size _ rfl, rfl, rfl⟩, fo, q⟩
    · obtain ⟨its, rv, pl, hz⟩ := I1.tuple hq
      exact wpAny_pyIter_tuple (show s1.heap.IsTuple a its.toArray from pl) ⟨s1.heap.objs.size, [s1.heap.objs.size], _, _, H1, rfl, I1.kept (t' := s1.toks) (fun b o e => Heap.get?_push_of_some _ e), turn_tuple a _, ⟨_, Heap.get?_push_size _ rfl, rfl, rfl⟩, fo, q⟩
  · subst ez
    obtain ⟨t, rfl⟩ := r1
    cases ha : z.cps.all (· < 128)
    · exact wpAny_pyIter_wide ha (pi_one (tk := s1.toks) I1 _ (turn_str _ z t "str_iterator" (.inr rfl)) ⟨_, Heap.get?_push_size _ rfl, rfl, rfl⟩ q)
    · exact wpAny_pyIter_ascii ha (pi_one (tk := s1.toks) I1 _ (turn_str _ z t "str_ascii_iterator" (.inl rfl)) ⟨_, Heap.get?_push_size _ rfl, rfl, rfl⟩ q)
def itemsQ (d : PyData) (K : List PyData → Prop) : Prop := match d with
  | .list ds => At ds K
  | .tuple ds => At ds K
  | .str x => At (signsD x) K
  | _ => False
abbrev dItF (f : PyData → (List PyData → Prop) → Prop) (we : DE) (env : List SD) (P : List PyData → List SD → Prop) : Prop := we env fun d env' => f d fun ds => P ds env'
theorem iseq {tg : Expr} {bb : Bool} (he : PE X e (liftE X.K Z we)) : PI X tg e (liftI X.K Z bb (dItF itemsQ we)) := PI.of (pi_seq he) fun σ H R ⟨g, F, env, P, k, w, q⟩ => ⟨g, F, env, _, k, w, fun d env1 v F1 H1 p e1 k1 r1 => by
  unfold itemsQ at p
  split at p
  · obtain ⟨a, xs, rfl, h1, h2⟩ := r1.inv_lst
    exact .inl ⟨a, rfl, .inl ⟨xs, (h1.mono k1.fh).sq, q _ env1 _ F1 H1 p.out e1 k1 (walkD_list h1 h2)⟩⟩
  · obtain ⟨a, xs, rfl, h1, h2⟩ := r1.inv_tup
    exact .inl ⟨a, rfl, .inr ⟨xs, Evl.ex_t k1.fh h1, q _ env1 _ F1 H1 p.out e1 k1 (walkD_tup h1 h2)⟩⟩
  · cases r1.inv_str
    exact .inr ⟨_, rfl, q _ env1 _ F1 H1 p.out e1 k1 (walkD_str _)⟩
  · exact p.elim⟩
/-- zip of two lists, of two tuples -/
def zipD : List PyData → List PyData → List PyData
  | x :: xs, y :: ys => .tuple [x, y] :: zipD xs ys
  | _, _ => []
theorem zipD_length : ∀ xs ys : List PyData, (zipD xs ys).length = min xs.length ys.length
  | [], _ => by simp [zipD]
  | _ :: _, [] => by simp [zipD]
  | x :: xs, y :: ys => by simp [zipD, zipD_length xs ys]
theorem zipD_get : ∀ {xs ys : List PyData} {i : Nat} {d : PyData}, (zipD xs ys)[i]? = some d → ∃ x y, xs[i]? = some x ∧ ys[i]? = some y ∧ d = .tuple [x, y]
  | [], _, _, _, h => by simp [zipD] at h
  | _ :: _, [], _, _, h => by simp [zipD] at h
  | x :: xs, y :: ys, 0, d, h => by simp [zipD] at h; exact ⟨x, y, rfl, rfl, h.symm⟩
  | x :: xs, y :: ys, i + 1, d, h => by
    obtain ⟨u, v, h1, h2, h3⟩ := zipD_get (xs := xs) (ys := ys) (i := i) (d := d) (by simpa [zipD] using h)
    exact ⟨u, v, by simpa using h1, by simpa using h2, h3⟩
theorem walk_zipT {K : PySem.W.Frag} {a b : Addr} {xs ys : List V} : Walk (RZ.ItzT K a b) (min xs.length ys.length) (fun H => SqT K H a xs ∧ SqT K H b ys) (YPair (fun i => xs[i]?) (fun i => ys[i]?)) :=
  ⟨fun i H hi q => ⟨xs, ys, xs[i]'(by omega), ys[i]'(by omega), q.1, q.2, by simp [show i < xs.length by omega], by simp [show i < ys.length by omega]⟩,
   fun H q => ⟨xs, ys, q.1, q.2, by omega⟩,
   fun i H x H' hi q y => by
    obtain ⟨T, u, v, h1, h2, h3, h4, h5⟩ := y
    exact ⟨T, u, v, h1, h2, h3, h4 xs q.1, h5 ys q.2⟩⟩
def zipQ (ds : List PyData) (K : List PyData → Prop) : Prop := match ds with
  | [.list xs, .list ys] => At (zipD xs ys) K
  | [.tuple xs, .tuple ys] => At (zipD xs ys) K
  | _ => False
theorem yld_pair {K : PySem.W.Frag} {F H H' : Hp} {us ws : List V} {xs ys : List PyData} {x : V} {i : Nat} {d : PyData} (r : DRs K F us xs) (r2 : DRs K F ws ys) (e : (zipD xs ys)[i]? = some d) (y : YPair (fun i => us[i]?) (fun i => ws[i]?) i H x H') : Yld K true F H x H' d := by
  obtain ⟨T, u, v, h1, h2, h3, h4, h5⟩ := y
  obtain ⟨dx, dy, e1, e2, rfl⟩ := zipD_get e
  obtain ⟨u', z1, z2⟩ := r.get e1
  obtain ⟨v', y1, y2⟩ := r2.get e2
  dsimp only at h4 h5
  rw [z1] at h4
  rw [y1] at h5
  cases h4
  cases h5
  exact .inr ⟨rfl, T, _, _, h1, h2, h3, rfl, .cons z2 (.one y2)⟩
theorem walkD_zipL {K : PySem.W.Frag} {F : Hp} {a b : Addr} {us ws : List V} {xs ys : List PyData} (h1 : RdL K F a us) (h3 : RdL K F b ws) (h2 : DRs K F us xs) (h4 : DRs K F ws ys) : WalkD K true F (Itz K a b) (zipD xs ys) :=
  ⟨fun H => SqL K H a us ∧ SqL K H b ws, YPair (fun i => us[i]?) (fun i => ws[i]?), walk_zip (by rw [zipD_length, h2.length, h4.length]), fun H e => ⟨(h1.mono e).sq, (h3.mono e).sq⟩, fun i H x H' d _ e y => yld_pair h2 h4 e y⟩
theorem walkD_zipT {K : PySem.W.Frag} {F : Hp} {a b : Addr} {us ws : List V} {xs ys : List PyData} (h1 : SqT K F a us) (h3 : SqT K F b ws) (h2 : DRs K F us xs) (h4 : DRs K F ws ys) : WalkD K true F (RZ.ItzT K a b) (zipD xs ys) :=
  ⟨fun H => SqT K H a us ∧ SqT K H b ws, YPair (fun i => us[i]?) (fun i => ws[i]?), by rw [zipD_length, ← h2.length, ← h4.length]; exact walk_zipT, fun H e => ⟨Evl.ex_t e h1, Evl.ex_t e h3⟩, fun i H x H' d _ e y => yld_pair h2 h4 e y⟩
theorem izip {elts : List Expr} {kk : Nat} {tpos p : Pos} (hm : X.mg "zip" = none) (ha : PA X [a, b] (liftA X.K Z was)) (hg : Gl X "zip" := by rfl) (hs : starEach [a, b] X.env = (false, eval a X.env) :: starEach [b] X.env := by rfl)
    (hpl : (backTo pos (starEach [b] X.env)).any (·.1) = false := by rfl) : PI X (.Tuple elts kk tpos) (.Call (.Name "zip" p) [a, b] [] pos) (liftI X.K Z true (dIt zipQ was)) :=
  PI.of (RZ.pi_zipA hg hm ha hs hpl) fun σ H R ⟨g, F, env, P, k, w, q⟩ => ⟨g, F, env, _, k, w, fun ds env1 vs F1 H1 p e1 k1 r1 => by
    unfold zipQ at p
    split at p
    · obtain ⟨v, u, rfl, r2, r3⟩ := r1.inv2
      obtain ⟨a, us, rfl, h1, h2⟩ := r2.inv_lst
      obtain ⟨b, ws, rfl, h3, h4⟩ := r3.inv_lst
      exact ⟨a, b, us, ws, rfl, .inl ⟨(h1.mono k1.fh).sq, (h3.mono k1.fh).sq, q _ env1 _ F1 H1 p.out e1 k1 (walkD_zipL h1 h3 h2 h4)⟩⟩
    · obtain ⟨v, u, rfl, r2, r3⟩ := r1.inv2
      obtain ⟨a, us, rfl, h1, h2⟩ := r2.inv_tup
      obtain ⟨b, ws, rfl, h3, h4⟩ := r3.inv_tup
      exact ⟨a, b, us, ws, rfl, .inr ⟨Evl.ex_t k1.fh h1, Evl.ex_t k1.fh h3, q _ env1 _ F1 H1 p.out e1 k1 (walkD_zipT h1 h3 h2 h4)⟩⟩
    · exact p.elim⟩
def qFor {I S : Type} (b : PyData → I → S → (I → S → Prop) → (I → S → Prop) → Prop) (i : I) : List PyData → S → (S → Prop) → Prop
  | [], s, K => K s
  | d :: r, s, K => b d i s (same i fun s => qFor b i r s K) (same i K)
abbrev dForQ {κ I S : Type} (is : List Nat) (dec : List SD → Option (I × S)) (emb : I → S → List SD) (kk : RT → κ) (qb : κ → PyData → I → S → (I → S → Prop) → (I → S → Prop) → Prop) (wi : DI) (E : DEnds) (env : List SD) : Prop :=
  wi env fun items env1 => decP is dec (fun i s => qFor (qb (kk E.rt)) i items s fun s => E.nx (emb i s)) env1
theorem sforQ {κ I S : Type} (is : List Nat) (dec : List SD → Option (I × S)) (emb : I → S → List SD) (kk : RT → κ) (qb : κ → PyData → I → S → (I → S → Prop) → (I → S → Prop) → Prop)
    (hde : ∀ env i s, dec env = some (i, s) → env = emb i s) {tg iter : Expr} {body : List Stmt} {wi : DI} {t : DG} {bb : Bool} (hp : PassesOwn (model X.prog X.w) X.A X.env X.xe) (hc : X.calm = true) (hi : PI X tg iter (liftI X.K Z bb wi)) (hg : PG X tg (liftG X.K Z bb t)) (hb : PSs X body (liftS X.K Z m w))
    (hq : ∀ (R : RT) (d : PyData) (i : I) (s : S) (nx bk : I → S → Prop), qb (kk R) d i s nx bk → t d (emb i s) fun env1 => w { nx := decP is dec nx, ct := decP is dec nx, bk := decP is dec bk, rt := R } env1)
    (hs : ∀ x, foldedSetIterable iter X.env x = pure x := by intro _; rfl) : PS X (.For tg iter body [] pos) (liftS X.K Z m (dForQ is dec emb kk qb wi)) :=
  PS.of (ps_for hp hc hi hg hb hs) fun D σ H ⟨g, F, env, P, k, w0, q⟩ => ⟨g, F, env, _, k, w0, fun items env1 J F1 H1 p e1 k1 ⟨G, Y, wk, hG, hY⟩ => by
    have q := q.ex e1
    obtain ⟨i0, s0, d0, p⟩ := decP_inv p
    have fin : ∀ {env' : List SD} {σ' : L2.St} {F' H' : Hp}, decP is dec (same i0 fun s => P.nx (emb i0 s)) env' → Ex F1 F' → Ok X.K g F' env' σ' H' → D.nx σ' H' := fun {env' σ' F' H'} p e k => by
      obtain ⟨i, s, d, rfl, p⟩ := decP_inv p
      have k2 := k.unS (is := is)
      rw [hde _ _ _ d] at k2
      exact q.nx _ _ _ _ p e k2
    refine for_it wk (fun j σ' H' => ∃ env' F', Ex F1 F' ∧ Ok X.K g F' env' σ' H' ∧ decP is dec (same i0 fun s => qFor (qb (kk P.rt)) i0 (items.drop j) s fun s => P.nx (emb i0 s)) env') ⟨env1, F1, Ex.refl F1, k1, by unfold decP; rw [d0]; exact ⟨rfl, p⟩⟩ (fun i σ' H' _ ⟨env', F', e2, k2, _⟩ => hG H' (e2.trans k2.fh)) (fun j x σ' H' H2 hj ⟨env', F', e2, k2, w2⟩ y => ?_) fun σ' H' ⟨env', F', e2, k2, w2⟩ => ?_
    · obtain ⟨i, s, de, rfl, w3⟩ := decP_inv w2
      have k2 := k2.unS (is := is)
      rw [hde _ _ _ de] at k2
      have hd : items.drop j = items[j] :: items.drop (j + 1) := List.drop_eq_getElem_cons hj
      rw [hd] at w3
      obtain ⟨F3, e3, k3, r3⟩ := k2.yld e2 (hY j H' x H2 items[j] (e2.trans k2.fh) (by simp [hj]) y)
      have e13 := e2.trans e3
      refine ⟨g, F3, _, _, _, k3, r3, hq P.rt _ i s _ _ w3, fun env4 σ4 F4 H4 p4 e4 k4 => ⟨g, F4, env4, _, k4, p4, ?_⟩⟩
      have e14 := e13.trans e4
      exact .mk4 (.mk (fun env5 σ5 F5 H5 p5 e5 k5 => ⟨env5, F5, e14.trans e5, k5, p5⟩) (fun env5 σ5 F5 H5 p5 e5 k5 => fin p5 (e14.trans e5) k5) (fun env5 σ5 F5 H5 p5 e5 k5 => ⟨env5, F5, e14.trans e5, k5, p5⟩) (fun r env5 v σ5 F5 H5 p5 e5 k5 r5 => q.rt r env5 v σ5 F5 H5 p5 (e14.trans e5) k5 r5)) rfl
    · rw [List.drop_length] at w2
      exact fin w2 e2 k2⟩
end
end DL

namespace DL
variable {T : List (PySem.Addr × PySem.Str)} {Z : Zx T}
open PySem PySem.Spec PyProof.Rows L2
open Evl (Ex)

def wipeD (env : List SD) : List Nat → List SD
  | [] => env
  | v :: vs => (wipeD env vs).set v .un
def setAll (σ : L2.St) : List Nat → List V → L2.St
  | i :: is, v :: vs => setAll (σ.set i (some v)) is vs
  | _, _ => σ
def setAllD (env : List SD) : List Nat → List PyData → List SD
  | i :: is, d :: ds => setAllD (env.set i (.dat d)) is ds
  | _, _ => env
theorem wipe_get (σ : L2.St) : ∀ (vs : List Nat) (j : Nat), (wipe σ vs)[j]? = if j ∈ vs then (σ[j]?).map (fun _ => none) else σ[j]?
  | [], j => by simp [wipe]
  | v :: vs, j => by
    unfold wipe
    rw [List.getElem?_set]
    by_cases h : v = j
    · subst h
      rw [if_pos rfl, if_pos List.mem_cons_self, wipe_length]
      by_cases hl : v < σ.length
      · rw [if_pos hl]
        simp [hl]
      · rw [if_neg hl]
        simp [Nat.le_of_not_lt hl]
    · rw [if_neg h, wipe_get σ vs j]
      by_cases hj : j ∈ vs
      · rw [if_pos hj, if_pos (List.mem_cons_of_mem _ hj)]
      · rw [if_neg hj, if_neg (fun z => (List.mem_cons.mp z).elim (fun z => h z.symm) hj)]
theorem wipe_set {σ : L2.St} {vs : List Nat} {i : Nat} {o : Option V} (h : i ∈ vs) : wipe (σ.set i o) vs = wipe σ vs := List.ext_getElem? fun j => by
  rw [wipe_get, wipe_get]
  by_cases hj : j ∈ vs
  · rw [if_pos hj, if_pos hj, List.getElem?_set]
    by_cases e : i = j
    · subst e
      rw [if_pos rfl]
      by_cases hl : i < σ.length
      · simp [hl]
      · rw [if_neg hl]
        simp [Nat.le_of_not_lt hl]
    · rw [if_neg e]
  · have ne : i ≠ j := fun e => by subst e; exact hj h
    rw [if_neg hj, if_neg hj, List.getElem?_set, if_neg ne]
theorem wipe_all {vs : List Nat} : ∀ {is : List Nat} {us : List V} {σ : L2.St}, (∀ i ∈ is, i ∈ vs) → wipe (setAll σ is us) vs = wipe σ vs
  | [], _, _, _ => by simp [setAll]
  | i :: is, [], _, _ => by simp [setAll]
  | i :: is, u :: us, σ, h => by
    unfold setAll
    rw [wipe_all (fun j hj => h j (List.mem_cons_of_mem _ hj)), wipe_set (h i List.mem_cons_self)]
theorem wipe_wipe {vs : List Nat} {σ : L2.St} : wipe (wipe σ vs) vs = wipe σ vs := List.ext_getElem? fun j => by
  rw [wipe_get, wipe_get]
  by_cases hj : j ∈ vs
  · rw [if_pos hj, if_pos hj]
    cases σ[j]? <;> rfl
  · rw [if_neg hj, if_neg hj]
section
variable {K : PySem.W.Frag} {g : Gx Z} {F F' : Hp} {env : List SD} {σ : L2.St} {H : Hp}
theorem noPar_un {env : List SD} {i j : Nat} {r : SD} (h : NoPar env j) (hr : ∀ xs, r ≠ .cel true xs) : NoPar (env.set i r) j := fun xs e => by
  rcases get_set e with ⟨_, q⟩ | ⟨_, q⟩
  · exact hr xs q.symm
  · exact h xs q
theorem noPar_wipe {env : List SD} {j : Nat} (h : NoPar env j) : ∀ vs : List Nat, NoPar (wipeD env vs) j
  | [] => h
  | v :: vs => noPar_un (noPar_wipe h vs) (fun _ z => by cases z)
theorem Ok.wiped (k : Ok K g F env σ H) : ∀ {vs : List Nat}, (∀ v ∈ vs, NoPar env v) → Ok K g F (wipeD env vs) (wipe σ vs) H
  | [], _ => k
  | v :: vs, h => (k.wiped (vs := vs) fun u hu => h u (List.mem_cons_of_mem _ hu)).setU (noPar_wipe (h v List.mem_cons_self) vs)
theorem Ok.setAll : ∀ {is : List Nat} {us : List V} {ds : List PyData} {env : List SD} {σ : L2.St}, Ok K g F env σ H → (∀ i ∈ is, NoPar env i) → DRs K F us ds → Ok K g F (setAllD env is ds) (DL.setAll σ is us) H
  | [], _, _, _, _, k, _, _ => by simpa [DL.setAll, setAllD] using k
  | i :: is, _, _, _, _, k, h, .nil => by simpa [DL.setAll, setAllD] using k
  | i :: is, _, _, _, _, k, h, .cons a b => by
    unfold DL.setAll setAllD
    exact Ok.setAll (k.setD (h i List.mem_cons_self) a) (fun j hj => noPar_un (h j (List.mem_cons_of_mem _ hj)) (fun _ z => by cases z)) b
theorem Ok.unwiped {vs : List Nat} (k : Ok K g F env (wipe σ vs) H) : Ok K g F env σ H := by
  have up : ∀ {i : Nat} {v : V}, (wipe σ vs)[i]? = some (some v) → σ[i]? = some (some v) := fun {i v} e => by
    rw [wipe_get] at e
    by_cases hj : i ∈ vs
    · rw [if_pos hj] at e
      cases q : σ[i]? with
      | none => rw [q] at e; cases e
      | some o => rw [q] at e; cases e
    · rw [if_neg hj] at e
      exact e
  have dn : ∀ {j : Nat} {p : Bool} {ys : List PyData} {a : Addr}, env[j]? = some (.cel p ys) → σ[j]? = some (some (.ref a)) → (wipe σ vs)[j]? = some (some (.ref a)) := fun {j p ys a} e q => by
    obtain ⟨b, _, h1, _⟩ := k.cel j p ys e
    have := up h1
    rw [q] at this
    cases this
    exact h1
  refine ⟨k.len.trans (wipe_length σ vs), k.fh, fun i d e => ?_, fun i p xs e => ?_, fun i j p q xs ys a h1 h2 h3 h4 => k.sep i j p q xs ys a h1 h2 (dn h1 h3) (dn h2 h4), k.pin, k.frame, k.newF, k.oldF, fun a o e => ?_, ?_⟩
  · obtain ⟨v, h1, h2⟩ := k.dat i d e
    exact ⟨v, up h1, h2⟩
  · obtain ⟨a, us, h1, h2⟩ := k.cel i p xs e
    exact ⟨a, us, up h1, h2⟩
  · obtain ⟨z1, z2, z3⟩ := k.prot a o e
    exact ⟨z1, z2, fun j p ys e1 e2 => z3 j p ys e1 (dn e1 e2)⟩
  · obtain ⟨B, h1, h2⟩ := k.dic
    refine ⟨B, fun i w e => let ⟨a, z1, z2⟩ := h1 i w e; ⟨a, up z1, z2⟩, fun i j w w' a b e1 e2 z1 z2 => h2 i j w w' a b e1 e2 ?_ ?_⟩
    · obtain ⟨c, y1, _⟩ := h1 i w e1
      have := up y1
      rw [z1] at this
      cases this
      exact y1
    · obtain ⟨c, y1, _⟩ := h1 j w' e2
      have := up y1
      rw [z2] at this
      cases this
      exact y1
theorem set_same {α : Type} {l : List α} {i : Nat} {x : α} (h : l[i]? = some x) : l.set i x = l := List.ext_getElem? fun j => by
  rw [List.getElem?_set]
  by_cases e : i = j
  · subst e
    rw [if_pos rfl, if_pos (List.getElem?_eq_some_iff.mp h).1, h]
  · rw [if_neg e]
/-- what stood at the slots vs is known again -/
def again (env1 : List SD) : List Nat → List SD → List SD
  | [], env2 => env2
  | v :: vs, env2 => match env1[v]? with
    | some (.dat d) => again env1 vs (env2.set v (.dat d))
    | _ => again env1 vs env2
theorem Ok.again {F1 H1 : Hp} {env1 : List SD} (k1 : Ok K g F1 env1 σ H1) (ex : Ex F1 F) : ∀ {vs : List Nat} {env2 : List SD}, Ok K g F env2 σ H → (∀ v ∈ vs, NoPar env2 v) → Ok K g F (DL.again env1 vs env2) σ H
  | [], _, k, _ => k
  | v :: vs, env2, k, h => by
    unfold DL.again
    split
    · rename_i d e
      obtain ⟨u, h1, h2⟩ := k1.dat v d e
      have k2 := k.setD (h v List.mem_cons_self) (h2.mono ex)
      rw [set_same h1] at k2
      exact Ok.again k1 ex k2 fun j hj => noPar_un (h j (List.mem_cons_of_mem _ hj)) (fun _ z => by cases z)
    · exact Ok.again k1 ex k fun j hj => h j (List.mem_cons_of_mem _ hj)
/-- the cell at D, no name's, protected -/
theorem Ok.hide (k : Ok K g F env σ H) {D : Addr} {vs : List V} (hF : F D = none) (hH : H D = some (.lst vs)) (nw : ∀ (j : Nat) (p : Bool) (ys : List PyData), env[j]? = some (.cel p ys) → σ[j]? ≠ some (some (.ref D))) (hp : g.Pr D = none) : Ok K (g.hid D vs hp) F env σ H :=
  ⟨k.len, k.fh, k.dat, k.cel, k.sep, k.pin, k.frame, k.newF, k.oldF, fun a o e => by
    by_cases z : a = D
    · subst z
      have e' : upd g.Pr a (.lst vs) a = some o := e
      rw [upd_same] at e'
      cases e'
      exact ⟨hH, hF, nw⟩
    · have e' : upd g.Pr D (.lst vs) a = some o := e
      rw [upd_ne z] at e'
      exact k.prot a o e',
    k.dic.keep (Ex.refl F) (fun a xs e n => by
      have ne : a ≠ D := fun z => by rw [z, hH] at e; cases e
      show upd g.Pr D (.lst vs) a = none
      rw [upd_ne ne]
      exact n) fun a xs _ n => ⟨n, rfl⟩⟩
theorem Ok.bare {D : Addr} {vs : List V} (hp : g.Pr D = none) (k : Ok K (g.hid D vs hp) F env σ H) :
    Ok K g F env σ H ∧ F D = none ∧ H D = some (.lst vs) ∧ ∀ (j : Nat) (p : Bool) (ys : List PyData), env[j]? = some (.cel p ys) → σ[j]? ≠ some (some (.ref D)) := by
  obtain ⟨z1, z2, z3⟩ := k.prot D (.lst vs) upd_same
  refine ⟨⟨k.len, k.fh, k.dat, k.cel, k.sep, k.pin, k.frame, k.newF, k.oldF, fun a o e => ?_, (k.dic.keep (Ex.refl F) (fun a xs e n => ?_) fun a xs _ n => ⟨n, rfl⟩)⟩, z2, z1, z3⟩
  · have ne : a ≠ D := fun z => by rw [z, hp] at e; cases e
    exact k.prot a o (show upd g.Pr D (.lst vs) a = some o by rw [upd_ne ne]; exact e)
  · have ne : a ≠ D := fun z => by rw [z, z1] at e; cases e
    have n : upd g.Pr D (.lst vs) a = none := n
    rw [upd_ne ne] at n
    exact n
/-- a cell of no name is written -/
theorem Ok.writeP (k : Ok K g F env σ H) {D : Addr} {o o0 : HO} (hD : H D = some o0) (hn : ∀ φ, o0 ≠ .ext φ) (t1 : ∀ ps, o0 ≠ .tbl ps) (t2 : ∀ q, o0 ≠ LamX.CodeO D q) (hF : F D = none) (h0 : g.H0 D = none) (hp : g.Pr D = none) (nw : ∀ (j : Nat) (p : Bool) (ys : List PyData), env[j]? = some (.cel p ys) → σ[j]? ≠ some (some (.ref D))) : Ok K g F env σ (upd H D o) := by
  refine ⟨k.len, fun a u e => ?_, k.dat, fun i p xs e => ?_, k.sep, k.pin, k.frame.putO hD t1 t2 (fun o e => by rw [h0] at e; cases e), k.newF, k.oldF, fun a u e => ?_, (k.dic.keep (Ex.refl F) (fun _ _ _ z => z) fun a xs e n => ⟨n, upd_ne fun z => ?_⟩)⟩
  · have ne : a ≠ D := fun z => by rw [z, hF] at e; cases e
    rw [upd_ne ne]
    exact k.fh a u e
  · obtain ⟨a, us, h1, h2, h3, h4⟩ := k.cel i p xs e
    have ne : a ≠ D := fun z => by subst z; exact nw i p xs e h1
    exact ⟨a, us, h1, h2, by rw [upd_ne ne]; exact h3, h4⟩
  · obtain ⟨z1, z2, z3⟩ := k.prot a u e
    have ne : a ≠ D := fun z => by rw [z, hp] at e; cases e
    exact ⟨by rw [upd_ne ne]; exact z1, z2, z3⟩
  · subst z
    rw [hD] at e
    exact hn xs (Option.some.inj e)
end

inductive CT where
  | one (i : Nat)
  | tup (is : List Nat)
def CT.slots : CT → List Nat
  | .one i => [i]
  | .tup is => is
def gNs : List Nat → TGs
  | [] => gNil
  | i :: is => gCons (gName i) (gNs is)
/-- the target's reading -/
def CT.g (K : PySem.W.Frag) : CT → TG
  | .one i => gName i
  | .tup is => gTup K is.length (gNs is)
def setK : List Nat → List PyData → List SD → (List SD → Prop) → Prop
  | [], ds, env, P => nilQ ds (P env)
  | i :: is, ds, env, P => consQ ds fun d r => setK is r (env.set i (.dat d)) P
theorem setK_inv : ∀ {is : List Nat} {ds : List PyData} {env : List SD} {P : List SD → Prop}, setK is ds env P → ds.length = is.length ∧ P (setAllD env is ds)
  | [], ds, env, P, h => by
    obtain ⟨rfl, h⟩ := nilQ_inv h
    exact ⟨rfl, h⟩
  | i :: is, ds, env, P, h => by
    obtain ⟨d, r, rfl, h⟩ := consQ_inv h
    obtain ⟨e, h⟩ := setK_inv (is := is) h
    exact ⟨by simp [e], h⟩
def CT.d : CT → DG
  | .one i => fun x env P => P (env.set i (.dat x))
  | .tup is => fun x env P => tupQ x fun ds => setK is ds env P
theorem gNs_ok : ∀ {is : List Nat} {vs : List V} {σ : L2.St} {H : Hp} {Q : L2.St → Hp → Prop}, vs.length = is.length → Q (setAll σ is vs) H → gNs is vs σ H Q
  | [], [], σ, H, Q, _, h => ⟨rfl, by simpa [setAll] using h⟩
  | [], _ :: _, _, _, _, e, _ => by simp at e
  | _ :: _, [], _, _, _, e, _ => by simp at e
  | i :: is, v :: vs, σ, H, Q, e, h => ⟨v, vs, rfl, gNs_ok (by simpa using e) (by unfold setAll at h; exact h)⟩
/-- whether the target is a tuple of names -/
def CT.isT : CT → Bool
  | .one _ => false
  | .tup _ => true
theorem CT.ok {K : PySem.W.Frag} {g : Gx Z} {F H : Hp} {env : List SD} {σ : L2.St} {t : CT} {x : V} {d : PyData} {P : List SD → Prop} {Q : L2.St → Hp → Prop} (k : Ok K g F env σ H) (hn : ∀ i ∈ t.slots, NoPar env i) (r : DRw K t.isT F x d) (w : t.d d env P)
    (q : ∀ env' σ', P env' → Ok K g F env' σ' H → (∃ us, σ' = setAll σ t.slots us) → Q σ' H) : t.g K x σ H Q := by
  cases t with
  | one i => exact q _ _ w (k.setD (hn i (List.mem_singleton.mpr rfl)) r.non) ⟨[x], by simp [CT.slots, setAll]⟩
  | tup is =>
    obtain ⟨ds, rfl, w⟩ := tupQ_inv w
    have w := setK_inv w
    obtain ⟨a, xs, rfl, h1, h2⟩ := r.tup
    exact ⟨a, xs, rfl, Evl.ex_t k.fh h1, h2.length.trans w.1, gNs_ok (h2.length.trans w.1) (q _ _ w.2 (k.setAll hn h2) ⟨xs, rfl⟩)⟩
def decQ {I S : Type} (dec : List SD → Option (I × S)) (N : I → S → Prop) (env : List SD) : Prop := match dec env with
  | some (i, s) => N i s
  | none => False
theorem decQ_inv {I S : Type} {dec : List SD → Option (I × S)} {N : I → S → Prop} {env : List SD} (h : decQ dec N env) : ∃ i s, dec env = some (i, s) ∧ N i s := by
  unfold decQ at h
  split at h
  · exact ⟨_, _, ‹_›, h⟩
  · exact h.elim
def qLc {I S : Type} (b : PyData → I → S → (I → S → Prop) → (PyData → I → S → Prop) → Prop) (i : I) : List PyData → List PyData → S → (List PyData → S → Prop) → Prop
  | [], acc, s, K => K acc s
  | d :: r, acc, s, K => b d i s (same i fun s => qLc b i r acc s K) fun y => same i fun s => acc.length < 100000 ∧ qLc b i r (acc ++ [y]) s K
abbrev dLcQ {I S : Type} (dec : List SD → Option (I × S)) (emb : I → S → List SD) (qb : PyData → I → S → (I → S → Prop) → (PyData → I → S → Prop) → Prop) (wi : DI) (t : CT) (env : List SD) (P : SD → List SD → Prop) : Prop :=
  wi env fun items env1 => bIf (t.slots.all (noPar env1)) (decQ dec (fun i s => qLc qb i items [] s fun acc s => bIf (t.slots.all (noPar (emb i s))) (P (.cel false acc) (again env1 t.slots (emb i s))) False) (wipeD env1 t.slots)) False
def LcHyp {I S : Type} (dec : List SD → Option (I × S)) (emb : I → S → List SD) (qb : PyData → I → S → (I → S → Prop) → (PyData → I → S → Prop) → Prop) (t : CT) (c : DT) (we : DE) : Prop :=
  ∀ (d : PyData) (i : I) (s : S) (sk : I → S → Prop) (yd : PyData → I → S → Prop), qb d i s sk yd → t.d d (emb i s) fun env1 => c env1 fun b env2 => bIf b
    (we env2 fun y env3 => bIf (t.slots.all (noPar env3)) (decQ dec (yd y) (wipeD env3 t.slots)) False)
    (bIf (t.slots.all (noPar env2)) (decQ dec sk (wipeD env2 t.slots)) False)
theorem noPar_all {env : List SD} {vs : List Nat} (h : vs.all (noPar env) = true) : ∀ v ∈ vs, NoPar env v := fun v hv => noPar_of (List.all_eq_true.mp h v hv)
theorem lift_lc {K : PySem.W.Frag} {I S : Type} {dec : List SD → Option (I × S)} {emb : I → S → List SD} {qb : PyData → I → S → (I → S → Prop) → (PyData → I → S → Prop) → Prop} (hde : ∀ env i s, dec env = some (i, s) → env = emb i s)
    {wi : DI} {t : CT} {c : DT} {we : DE} (hq : LcHyp dec emb qb t c we) {σ : L2.St} {H : Hp} {Q : VK} (h : liftX K Z (dLcQ dec emb qb wi t) σ H Q) : tLc (liftI K Z t.isT wi) (t.g K) (liftT K Z c) (liftE K Z we) t.slots σ H Q := by
  obtain ⟨g, F, env, P, k, w, q⟩ := h
  refine ⟨g, F, env, _, k, w, fun items env1 J F1 H1 p e1 k1 ⟨G, Y, wk, hG, hY⟩ D hD => ?_⟩
  obtain ⟨np, p⟩ := bIf_and p
  obtain ⟨i0, s0, d0, p⟩ := decQ_inv p
  have kw := k1.wiped (noPar_all np)
  obtain ⟨kn, rn⟩ := kw.newCell hD (vs := []) (xs := []) .nil
  refine lc_it wk (fun j H' => ∃ env' F' acc, Ex F1 F' ∧ Ok K g F' env' (wipe σ t.slots) H' ∧ ResOk K g F' env' (wipe σ t.slots) H' (.ref D) (.cel false acc) ∧ (∀ v ∈ t.slots, NoPar env' v) ∧
      decQ dec (same i0 fun s => qLc qb i0 (items.drop j) acc s fun acc s => bIf (t.slots.all (noPar (emb i0 s))) (P (.cel false acc) (again env1 t.slots (emb i0 s))) False) env')
    ⟨_, F1, [], Ex.refl F1, kn, rn, fun v hv => noPar_wipe (noPar_all np v hv) _, by unfold decQ; rw [d0]; exact ⟨rfl, p⟩⟩ (fun i H' _ ⟨env', F', acc, e2, k2, _⟩ => hG H' (e2.trans k2.fh)) (fun j x H' H2 hi ⟨env', F', acc, e2, k2, r2, n2, w2⟩ y => ?_) fun H' ⟨env', F', acc, e2, k2, r2, n2, w2⟩ => ?_
  · obtain ⟨i, s, de, rfl, w3⟩ := decQ_inv w2
    obtain rfl := hde _ _ _ de
    rw [List.drop_eq_getElem_cons hi] at w3
    have w2 := hq _ _ _ _ _ w3
    obtain ⟨D', vsA, eD, hF, hHD, rA, h0, hpr, nw⟩ := r2
    cases eD
    have kh := k2.hide hF hHD nw hpr
    obtain ⟨F3, e3, k3, r3⟩ := kh.yld e2 (hY j H' x H2 items[j] (e2.trans k2.fh) (by simp [hi]) y)
    refine CT.ok k3 n2 r3 w2 fun env4 σ4 p4 k4 ⟨us, hσ⟩ => ?_
    have hw : wipe σ4 t.slots = wipe σ t.slots := by rw [hσ, wipe_all (fun i hi => hi), wipe_wipe]
    refine ⟨hw, _, F3, env4, _, k4, p4, fun b env5 F5 H5 p5 e5 k5 => ?_⟩
    cases b with
    | false =>
      refine iteF ?_
      have p5 := bIf_and p5
      obtain ⟨k6, z1, z2, z3⟩ := Ok.bare hpr k5
      have k7 := k6.wiped (noPar_all p5.1)
      rw [hw] at k7
      refine ⟨_, F5, acc, (e2.trans e3).trans e5, k7, ?_, fun v hv => noPar_wipe (noPar_all p5.1 v hv) _, p5.2⟩
      refine ⟨D, vsA, rfl, z1, z2, rA.mono (e3.trans e5), h0, hpr, fun j p ys ej ez => ?_⟩
      rw [← hw] at ez
      exact wiped_cell z3 ej ez
    | true =>
      refine iteT ⟨_, F5, env5, _, k5, p5, fun d env6 v F6 H6 p6 e6 k6 r6 => ?_⟩
      obtain ⟨np6, p6⟩ := bIf_and p6
      obtain ⟨i6, s6, d6, hi6, p6⟩ := decQ_inv p6
      obtain ⟨k7, z1, z2, z3⟩ := Ok.bare hpr k6
      refine ⟨vsA, z2, by rw [rA.length]; exact Evl.sz_lt p6.1, ?_⟩
      have k8 := k7.wiped (noPar_all np6)
      have z4 : ∀ (j : Nat) (p : Bool) (ys : List PyData), (wipeD env6 t.slots)[j]? = some (.cel p ys) → (wipe σ4 t.slots)[j]? ≠ some (some (.ref D)) := fun j p ys ej ez => wiped_cell z3 ej ez
      have k9 := k8.writeP (o := .lst (vsA ++ [v])) z2 (fun _ z => by cases z) (fun _ z => by cases z) (fun _ z => codeO_lst z.symm) z1 h0 hpr z4
      rw [hw] at k9 z4
      exact ⟨_, F6, acc ++ [d], ((e2.trans e3).trans e5).trans e6, k9, ⟨D, vsA ++ [v], rfl, z1, upd_same, (rA.mono ((e3.trans e5).trans e6)).append (.one r6), h0, hpr, z4⟩, fun v hv => noPar_wipe (noPar_all np6 v hv) _, by unfold decQ; rw [d6]; exact ⟨hi6, p6.2⟩⟩
  · obtain ⟨i, s, de, rfl, w3⟩ := decQ_inv w2
    obtain rfl := hde _ _ _ de
    rw [List.drop_length] at w3
    have w2 := bIf_and w3
    have k3 := k2.unwiped
    have k4 := Ok.again k1 e2 k3 (noPar_all w2.1)
    obtain ⟨D', vsA, eD, hF, hHD, rA, h0, hpr, nw⟩ := r2
    cases eD
    refine q _ _ _ F' H' w2.2 (e1.trans e2) k4 ⟨D, vsA, rfl, hF, hHD, rA, h0, hpr, fun j p ys ej ez => ?_⟩
    have ej' := again_cell ej
    obtain ⟨a, _, b1, _⟩ := k3.cel j p ys ej'
    obtain ⟨a2, _, b2, _⟩ := k2.cel j p ys ej'
    have b3 := wipe_some b2
    rw [ez] at b1
    cases b1
    rw [ez] at b3
    cases b3.1
    exact nw j p ys ej' b2
where
  wiped_cell {env : List SD} {σ : L2.St} {D : Addr} {vs : List Nat} (z : ∀ (j : Nat) (p : Bool) (ys : List PyData), env[j]? = some (.cel p ys) → σ[j]? ≠ some (some (.ref D))) {j : Nat} {p : Bool} {ys : List PyData} (e : (wipeD env vs)[j]? = some (.cel p ys)) (e2 : (wipe σ vs)[j]? = some (some (.ref D))) : False := by
    have h1 := (wipe_some e2).1
    have : ∀ vs : List Nat, (wipeD env vs)[j]? = some (.cel p ys) → env[j]? = some (.cel p ys) := fun vs => by
      induction vs with
      | nil => exact id
      | cons v vs ih =>
        intro h
        rcases get_set h with ⟨_, q⟩ | ⟨_, q⟩
        · cases q
        · exact ih q
    exact z j p ys (this vs e) h1
  again_cell {env1 : List SD} {vs : List Nat} {env2 : List SD} {j : Nat} {p : Bool} {ys : List PyData} (e : (again env1 vs env2)[j]? = some (.cel p ys)) : env2[j]? = some (.cel p ys) := by
    induction vs generalizing env2 with
    | nil => exact e
    | cons v vs ih =>
      unfold again at e
      split at e
      · have := ih e
        rcases get_set this with ⟨_, q⟩ | ⟨_, q⟩
        · cases q
        · exact q
      · exact ih e
section
variable {X : Cx} {elt tg iter : Expr} {ifs : List Expr} {scope : Scope} {own : List (Str × Nat)} {pos : Pos} {wi : DI} {t : CT} {c : DT} {we : DE} {m : Nat} {I S : Type} {dec : List SD → Option (I × S)} {emb : I → S → List SD} {qb : PyData → I → S → (I → S → Prop) → (PyData → I → S → Prop) → Prop}
abbrev dYes (env : List SD) (P : Bool → List SD → Prop) : Prop := P true env
theorem tyes : PTs X [] (liftT X.K Z dYes) := ⟨fun pins s σ H Q I ⟨g, F, env, P, k, w, q⟩ => pts_nil.run pins s σ H Q I (q true env F H w (Ex.refl F) k)⟩
theorem tif1 {e : Expr} (h : PT X e (liftT X.K Z c)) : PTs X [e] (liftT X.K Z c) := pts_one h
/-- [elt for tg in iter if ..] -/
theorem dlc (own : List (Str × Nat)) (t : CT) (hde : ∀ env i s, dec env = some (i, s) → env = emb i s) (hc : X.calm = true) (hN : X.N.Nodup) (hi : PI X tg iter (liftI X.K Z t.isT wi)) (ok : BlkOk X.N X.env.scope scope own)
    (hg : ∀ (s : Shared) (H : Hp) (C : Addr) (cl : List (Str × Addr)) (fp : List Addr), PG (X.blk s H scope (compEnvC scope cl C X.env) fp) tg (t.g X.K)) (ht : ∀ (s : Shared) (H : Hp) (C : Addr) (cl : List (Str × Addr)) (fp : List Addr), PTs (X.blk s H scope (compEnvC scope cl C X.env) fp) ifs (liftT X.K Z c))
    (he : ∀ (s : Shared) (H : Hp) (C : Addr) (cl : List (Str × Addr)) (fp : List Addr), PE (X.blk s H scope (compEnvC scope cl C X.env) fp) elt (liftE X.K Z we)) (hq : LcHyp dec emb qb t c we) (hsl : t.slots = own.map (·.2) := by rfl) (hs : ∀ x, foldedSetIterable iter X.env x = pure x := by intro _; rfl) :
    PE X (.ListComp elt [⟨tg, iter, ifs, 0⟩] scope pos) (liftX X.K Z (dLcQ dec emb qb wi t)) := PE.of (pe_lc hc hN hi ok hg ht he hs) fun σ H Q h => by
  have h2 := lift_lc hde hq h
  rw [hsl] at h2
  exact h2
end
end DL

namespace DL
variable {T : List (PySem.Addr × PySem.Str)} {Z : Zx T}
open PySem PySem.Spec PyProof.Rows L2
open Evl (Ex)

section
variable {K : PySem.W.Frag} {F H : Hp} {vs : List V} {as : List SD}
/-- where the cells handed in stand -/
def cellsAt (vs : List V) (as : List SD) (i : Nat) : Option Addr := match as[i]?, vs[i]? with
  | some (.cel _ _), some (.ref a) => some a
  | _, _ => none
theorem cellsAt_of {i : Nat} {p : Bool} {xs : List PyData} {a : Addr} (h1 : as[i]? = some (.cel p xs)) (h2 : vs[i]? = some (.ref a)) : cellsAt vs as i = some a := by
  unfold cellsAt
  rw [h1, h2]
theorem cellsAt_inv {i : Nat} {a : Addr} (h : cellsAt vs as i = some a) : ∃ p xs, as[i]? = some (.cel p xs) ∧ vs[i]? = some (.ref a) := by
  unfold cellsAt at h
  split at h
  · rename_i p xs b h1 h2
    cases h
    exact ⟨p, xs, h1, h2⟩
  · cases h
def entryZ (T : List (Addr × Str)) (P : Program) (w : World) (F H : Hp) (vs : List V) (as : List SD) : Zx T := ⟨F, H, cellsAt vs as, fun _ => none, P, w⟩
def entryG (T : List (Addr × Str)) (P : Program) (w : World) (F H : Hp) (vs : List V) (as : List SD) : Gx (entryZ T P w F H vs as) := ⟨fun _ => none, fun _ _ h => h, fun _ _ h => by cases h⟩
theorem start_get {N : List Str} {i : Nat} {v : V} (h : vs[i]? = some v) : (start N vs)[i]? = some (some v) := by
  unfold L2.start
  have hi : i < vs.length := (List.getElem?_eq_some_iff.mp h).1
  rw [List.getElem?_append_left (by simpa using hi), List.getElem?_map, h]
  rfl
theorem args_get {m i : Nat} {r : SD} (h : (as ++ List.replicate m SD.un)[i]? = some r) (hr : r ≠ .un) : as[i]? = some r := by
  by_cases hi : i < as.length
  · rwa [List.getElem?_append_left hi] at h
  · rw [List.getElem?_append_right (by omega), List.getElem?_replicate] at h
    split at h
    · cases h
      exact absurd rfl hr
    · cases h
theorem entry_ok {N ps : List Str} (ha : ArgsOk T K F H vs as) (hl : as.length = ps.length) (hN : ps.length ≤ N.length) {P : Program} {w : World} : Ok K (entryG T P w F H vs as) F (as ++ List.replicate (N.length - ps.length) .un) (start N vs) H where
  len := by
    unfold L2.start
    have := ha.len
    simp
    omega
  fh := ha.fh
  dat := fun i d e => by
    obtain ⟨v, h1, h2⟩ := ha.dat i d (args_get e (fun z => by cases z))
    exact ⟨v, start_get h1, h2⟩
  cel := fun i p xs e => by
    have e := args_get e (fun z => by cases z)
    obtain ⟨rfl, a, us, h1, h2, h3, h4⟩ := ha.cel i p xs e
    exact ⟨a, us, start_get h1, h2, h3, h4, fun _ => cellsAt_of e h1, fun z => by cases z⟩
  sep := fun i j p q xs ys a e1 e2 h1 h2 => by
    have e1 := args_get e1 (fun z => by cases z)
    have e2 := args_get e2 (fun z => by cases z)
    obtain ⟨_, b, _, b1, _⟩ := ha.cel i p xs e1
    obtain ⟨_, c, _, c1, _⟩ := ha.cel j q ys e2
    rw [start_get b1] at h1
    rw [start_get c1] at h2
    cases h1
    cases h2
    exact ha.sep i j p q xs ys _ e1 e2 b1 c1
  pin := fun i a e => by
    obtain ⟨p, xs, h1, h2⟩ := cellsAt_inv e
    obtain ⟨rfl, _⟩ := ha.cel i p xs h1
    refine ⟨xs, ?_⟩
    rw [List.getElem?_append_left (List.getElem?_eq_some_iff.mp h1).1]
    exact h1
  frame := Frm.refl ha.tab
  newF := fun a o e => .inl e
  oldF := ⟨Ex.refl F, ha.nt⟩
  prot := fun a o e => by cases e
  dic := DicsOk.none fun i w e => ha.nod i w (args_get e (fun z => by cases z))
theorem post_of {P : Program} {w : World} {env : List SD} {σ : L2.St} {F' H' : Hp} {v : V} {r : SD} {n : Nat} (k : Ok K (entryG T P w F H vs as) F' env σ H') (hn : ∀ (i : Nat) (p : Bool) (xs : List PyData), as[i]? = some (.cel p xs) → i < n) (hr : ResOk K (entryG T P w F H vs as) F' env σ H' v r) : PostOk T K F H vs as F' H' (env.take n) v r where
  ex := k.oldF.1
  nt := k.oldF.2
  fh := k.fh
  newF := k.newF
  frame := k.frame.weak fun a o e n i z => by
    obtain ⟨p, xs, h1, h2⟩ := cellsAt_inv z
    exact n i p xs h1 h2
  cel := fun i p xs a h1 h2 => by
    have e : (entryG T P w F H vs as).A0 i = some a := cellsAt_of h1 h2
    obtain ⟨ys, h3⟩ := k.pin i a e
    obtain ⟨b, us, _, c2, c3, c4, c5, _⟩ := k.cel i true ys h3
    have c5 := c5 rfl
    rw [e] at c5
    cases c5
    refine ⟨ys, us, ?_, c2, c3, c4⟩
    rw [List.getElem?_take_of_lt (hn _ _ _ h1)]
    exact h3
  res := by
    cases r with
    | un => exact hr
    | dat d => exact hr
    | cel b xs =>
      obtain ⟨a, us, h1, h2, h3, h4, h5, _⟩ := hr
      exact ⟨a, us, h1, h2, h3, h4, h5⟩
    | dic kvs => exact hr.elim
end

section
variable {P : Program} {w : World} {K : PySem.W.Frag} {mg : Str → Option Value} {base : Heap}
/-- the ends of a def's body -/
def defEnds (m : Nat) (Q : SD → List SD → Prop) : DEnds := { nx := fun env => Q (.dat .none) (env.take m), rt := Q }
/-- cells stand ahead of place m alone -/
def CelsIn (m : Nat) (S : DSp) : Prop := ∀ as Q, S as Q → ∀ (i : Nat) (p : Bool) (xs : List PyData), as[i]? = some (.cel p xs) → i < m
/-- a def of the text, by its body read as data -/
theorem dfn (m : Nat) {x qual : Str} {st : Stmt} {f : Addr} {fd : FuncData} {N ps : List Str} {k : Nat} {S : DSp} (Fn : Fun K x qual st f fd) (sc : FnScope N ps (defScope st)) (len : ∀ as Q, S as Q → as.length = ps.length) (cels : CelsIn m S)
    (hbody : ∀ {Z : Zx T} (cdv : Value) (A : Around) (outer : List Env) (s : Shared) (H : Hp), Room k (A.deeper (envOfC qual (defScope st) s.heap.objs.size f cdv)) → (A.deeper (envOfC qual (defScope st) s.heap.objs.size f cdv)).guards = some [] →
      ∃ t : DS, PSs (cxOf CX0 P w K mg base N qual (defScope st) f cdv A outer s H E0).nox (defBody st) (liftS K Z m t) ∧
        ∀ as Q, S as Q → t (defEnds m Q) (as ++ List.replicate (N.length - ps.length) .un)) : FnG P w K mg base T (k + 1) f fd ps S := by
  obtain ⟨oc, od, kV, doc, pm, an, cdv, ct, osl, rfl, lk, hcd⟩ := Fn.ex
  refine ⟨len, fun A outer s H args us vs Q hr hg e0 hb rv ⟨F0, as, PP, ha, hS, hQ⟩ => ?_⟩
  have hl : vs.length = ps.length := ha.len.symm.trans (len as PP hS)
  have hpl : ps.length ≤ N.length := by
    have := congrArg List.length sc.pre
    rw [List.length_take] at this
    omega
  have KX : K.In s.heap := e0.mod.kin.keeps fun b o e => (e0.bs b o e).1
  refine codeAny_call_function hr.depth (KX _ _ lk) rfl sc.co sc.gen rfl (PySem.W.codeRec_of KX hcd) (hb _ _ _ _ (wpAny_newFunctionEnv_cells sc.kind (fun ⟨n, v⟩ hy => ?_) fun env he s1 x => ?_))
  · rcases sc.par n (List.of_mem_zip hy).1 with q | q
    · exact .inl q
    · exact .inr ⟨q, PySem.W.cellsFrom_some _ _ _ (.inl q)⟩
  · subst he
    obtain ⟨t, ht, hq⟩ := hbody (Z := entryZ T P w F0 H vs as) cdv A outer s H (hr.deeper _) hg
    have I : Inv (cxOf CX0 P w K mg base N qual (defScope st) f cdv A outer s H E0) [] (start N vs) H s1 := inv_start sc hr.hd e0 hl rv x
    refine ⟨(e0.mod.nolimit.keeps fun b o e => (e0.bs b o e).1).keeps x.toInCall.keep, codeAny_func (wpAny_mono (ht.nox.run [] s1 (start N vs) H { nx := fun _ H' => Q .non H', rt := Q } I ?_) (fun fl s' hs => ?_) fun e s' hs => hs)⟩
    · have al : as.length = ps.length := len as PP hS
      refine ⟨entryG T P w F0 H vs as, F0, _, _, entry_ok ha al hpl, hq as PP hS, ?_⟩
      exact .mk4 (.mk (fun env' σ' F' H' p _ k' => hQ _ _ _ _ _ p (post_of k' (cels _ _ hS) .non)) (fun _ _ _ _ p => p.elim) (fun _ _ _ _ p => p.elim) (fun r env' v σ' F' H' p _ k' r' => hQ _ _ _ _ _ p (post_of k' (cels _ _ hS) r'))) rfl
    · have fin : ∀ {σ' : L2.St} {H' : Hp} {v : V} {u : Value}, Inv (cxOf CX0 P w K mg base N qual (defScope st) f cdv A outer s H E0) [] σ' H' s' → RelV v u → Q v H' → CE outer P w H s Q u s' :=
        fun {σ' H' v u} J r q => ⟨v, H', J.os, J.bare, J.base, J.hok, r, q⟩
      match fl, hs with
      | .ret u, ⟨v, σ', H', J, r, q⟩ => exact fin J r q
      | .next, ⟨σ', H', J, q⟩ => exact fin (v := V.non) (u := Value.none) J rfl q
      | .brk, ⟨_, _, _, q⟩ => exact q.elim
      | .cont, ⟨_, _, _, q⟩ => exact q.elim
/-- what is asked of a law's def: of a list of the script's numbers it tells True -/
def lawS (n : Nat) : DSp := fun as Q => match as with
  | [.dat (.list ds)] => (∃ ns : List Int, ds = ns.map .int ∧ ns.length ≤ n) ∧ ∀ as', Q (.dat (.bool true)) as'
  | _ => False
theorem drs_ints {F : Hp} : ∀ ns : List Int, DRs K F (ns.map V.int) (ns.map PyData.int)
  | [] => .nil
  | n :: ns => .cons (.int n) (drs_ints ns)
/-- the modules' dict stands -/
def SysD (h : Heap) : Prop := ∃ o es ep, h.get? sysModules = some o ∧ o.data = .dict es ep
class SysB (base : Heap) : Prop where
  out : SysD base
theorem law_data {mb : Str → Option Value} {k n : Nat} {fa a : Addr} {fd : FuncData} {x : Str} {s₁ : Shared} {vs : List Value} {ns : List Int}
    (KX : K.In s₁.heap) (hns : s₁.heap.Ns mainGlobals mg) (hb : s₁.heap.Ns builtinsNs mb) (hbb : ∀ x : Str, x ≠ "__name__" → mb x = bootBuiltins x) (hlim : s₁.heap.NoLimit) (hgn : s₁.gens = #[])
    (ha : s₁.heap.get? a = some { cls := .type "list", data := .seq vs.toArray }) (hi : IntsAre vs ns) (hn : ns.length ≤ n) (hz : n ≤ sizeLine) (hr : Room k callerA)
    (hsys : SysD s₁.heap) (Fn : ∀ base : Heap, K.In base → base.Ns mainGlobals mg → SysD base → FnG P w K mg base [] k fa fd [x] (lawS n)) (hbind : ∀ (s : Shared) (u : Value), BindsTo s fd ⟨[u], []⟩ [(x, u)]) :
    codeAny (model P w) callerA (.call (.ref fa) ⟨[.ref a], []⟩) (fun r s' => r = .ok (.ret (.bool true)) ∧ OldK s₁.heap s'.heap ∧ s'.os = s₁.os ∧ AllBare s'.gens) s₁ := by
  have rv := vals_ints hi
  have lenV := hi.length
  have hl : ns.length ≤ sizeLine := Nat.le_trans hn hz
  have core : ∀ H : Hp, Only H → RdL K H a (ns.map V.int) → HOk P w H s₁.heap → (∀ b, H b ≠ none → b = a) → (H a ≠ none → K.lookup a = none) →
      codeAny (model P w) callerA (.call (.ref fa) ⟨[.ref a], []⟩) (fun r s' => r = .ok (.ret (.bool true)) ∧ OldK s₁.heap s'.heap ∧ s'.os = s₁.os ∧ AllBare s'.gens) s₁ := by
    intro H hO hS hok hA hK
    have isA : ∀ {b : Addr} {u : HO}, H b = some u → b = a := fun {b u} q => hA b (by rw [q]; simp)
    have noA : ∀ {b : Addr} {o : Obj} {es : Array DictEntry} {ep : Nat}, s₁.heap.get? b = some o → o.data = .dict es ep → H b = none := fun {b o es ep} e d => by
      cases q : H b with
      | none => rfl
      | some u =>
        cases isA q
        rw [ha] at e; cases e
        cases (show Data.seq vs.toArray _ = Data.dict es ep from d)
    have nsK : ∀ {b : Addr} {m : Str → Option Value}, s₁.heap.Ns b m → (hidT s₁.heap H).Ns b m := fun {b m} ⟨o, es, ep, e, d, r⟩ => ⟨o, es, ep, hidT_get e (noA e d), d, r⟩
    have hKb : K.In (hidT s₁.heap H) := fun b o e => hidT_get (KX b o e) (by
      cases q : H b with
      | none => rfl
      | some u =>
        cases isA q
        rw [hK (by rw [q]; simp)] at e; cases e)
    have hM : Mod K mg (hidT s₁.heap H) := ⟨hKb, nsK hns, ⟨mb, nsK hb, hbb⟩, let ⟨mc, h1, h2⟩ := hlim; ⟨mc, nsK h1, h2⟩⟩
    have e0 : Env0 P w K mg (hidT s₁.heap H) callerA [] s₁ H := ⟨rfl, hM, fun b o e => of_hidT e, Nat.le_of_eq (hidT_size _ _), trivial, fun b hb => absurd (show b ∈ ([] : List Addr) from hb) (by simp), hok, .of_eq hgn⟩
    have goal : spD [] K (lawS n) [.ref a] H (fun v _ => v = .bl true) := by
      refine ⟨H, [.dat (.list (ns.map .int))], fun r _ => r = .dat (.bool true), args_dat (Ex.refl H) (fun p hp => absurd hp (by simp)) (fun b ps z => by rcases hO b with y | ⟨o, xs, y⟩ <;> rw [y] at z <;> cases z) (ds := [.list (ns.map .int)]) (.one (.lst hS (drs_ints ns))), ⟨⟨ns, rfl, hn⟩, fun _ => rfl⟩, fun r as' v F' H' p po => ?_⟩
      subst p
      exact DR.inv_bool po.res
    refine codeAny_mono ((Fn _ hKb (nsK hns) (let ⟨o, es, ep, e, d⟩ := hsys; ⟨o, es, ep, hidT_get e (noA e d), d⟩)).go callerA [] s₁ H ⟨[.ref a], []⟩ [.ref a] [.ref a] _ hr rfl e0 (hbind s₁ (.ref a)) (.cons rfl .nil) goal) fun r s' h => ?_
    match r, h with
    | .error e, h =>
      exact h.elim
    | .ok .next, h => exact h.elim
    | .ok .brk, h => exact h.elim
    | .ok .cont, h => exact h.elim
    | .ok (.ret u), ⟨v, H', os, bare, un, hok', r', q⟩ =>
      have q' : v = .bl true := q
      subst q'
      obtain rfl : u = Value.bool true := r'
      refine ⟨rfl, OldK.of_keep fun b o e => ?_, os, bare⟩
      cases q : H b with
      | none => exact un.keep b o e q (by intro z; exact absurd (show b ∈ ([] : List Addr) from z) (by simp)) (by simp)
      | some u =>
        rcases hO b with z | ⟨ob, xs, z⟩
        · rw [q] at z; cases z
        · have z2 := un.frzs b ob _ z
          obtain ⟨e1, _⟩ := hok b _ z
          obtain ⟨e2, _⟩ := hok' b _ z2
          rw [e] at e1; cases e1
          exact e2
  cases hk : K.lookup a with
  | some o =>
    have e := KX a o hk
    rw [ha] at e
    cases e
    exact core (fun _ => none) (fun _ => .inl rfl) (.inr ⟨vs, 0, hk, rv, by rw [lenV]; exact hl⟩) (fun b u z => by cases (show (none : Option HO) = some u from z)) (fun b z => absurd rfl z) fun z => absurd rfl z
  | none =>
    refine core (fun b => if b = a then some (.frz { cls := .type "list", data := .seq vs.toArray } (.lst (ns.map V.int))) else none) (fun b => ?_) (.inl (.inr ⟨{ cls := .type "list", data := .seq vs.toArray }, if_pos rfl⟩)) (fun b u z => ?_) (fun b z => ?_) fun _ => hk
    · by_cases hb : b = a
      · exact .inr ⟨_, _, if_pos hb⟩
      · exact .inl (if_neg hb)
    · by_cases hb : b = a
      · cases (if_pos hb).symm.trans z
        subst hb
        exact ⟨ha, by rw [List.length_map]; exact hl, vs, _, rv, ha⟩
      · cases (if_neg hb).symm.trans z
    · by_cases hb : b = a
      · exact hb
      · exact absurd (if_neg hb) z
end
end DL

namespace DL
variable {T : List (PySem.Addr × PySem.Str)} {Z : Zx T}
open PySem PySem.Spec PyProof.Rows L2
open Evl (Ex)

/-- a def of the top that keeps its promise -/
structure Dn (P : Program) (w : World) (K : PySem.W.Frag) (mg : Str → Option Value) (base : Heap) (T : List (Addr × Str)) (x : Str) (k : Nat) (ps : List Str) (S : DSp) : Prop where
  ex : ∃ fd, FnG P w K mg base T k (He.ga K x) fd ps S ∧ Binds K fd ps []
  glo : mg x = some (.ref (He.ga K x))
  kp : PySem.W.keepIn K (.ref (He.ga K x)) = true
/-- what the head says of the top -/
structure Top (fa : List He.Fa) (fn : List He.FnD) (K : PySem.W.Frag) (mg : Str → Option Value) : Prop where
  says : He.SaysE fa fn K
  ns : ∃ h, K.In h ∧ h.Ns mainGlobals mg
section
variable {fa : List He.Fa} {fn : List He.FnD} {K : PySem.W.Frag} {mg : Str → Option Value}
theorem Top.glo (T : Top fa fn K mg) (x : Str) (i : Nat) (h : fa[i]? = some (.glo x) := by rfl) : mg x = some (.ref (He.ga K x)) := by
  obtain ⟨hp, h1, h2⟩ := T.ns
  exact He.glo_ok h1 h2 (T.says.fact i h)
theorem Top.free (T : Top fa fn K mg) (x : Str) (i : Nat) (h : fa[i]? = some (.free x) := by rfl) : mg x = none := by
  obtain ⟨hp, h1, h2⟩ := T.ns
  exact He.free_ok h1 h2 (T.says.fact i h)
theorem Top.int (T : Top fa fn K mg) (x : Str) (n : Int) (i : Nat) (h : fa[i]? = some (.int x n) := by rfl) : ∃ t, mg x = some (.int n t) := by
  obtain ⟨hp, h1, h2⟩ := T.ns
  exact He.int_ok h1 h2 (T.says.fact i h)
theorem Top.keep (T : Top fa fn K mg) (x : Str) (i : Nat) (h : fa[i]? = some (.keep x) := by rfl) : PySem.W.keepIn K (.ref (He.ga K x)) = true := He.keep_ok (T.says.fact i h)
theorem Top.fun_ (T : Top fa fn K mg) (x : Str) (st : Stmt) (i j : Nat) (h : fn[i]? = some ⟨(x, none), x, x, defArgs st, defBody st, defScope st⟩ := by rfl) (hk : fa[j]? = some (.keep x) := by rfl) :
    ∃ kV doc pm an cdv ct, Fun K x x st (He.ga K x) (PySem.W.fnOf x x (defArgs st) (defBody st) (defScope st) .none kV doc pm an cdv ct) := by
  obtain ⟨oc, od, osl, kV, doc, pm, an, cdv, ct, h1, h2⟩ := T.says.def_ i h
  exact ⟨kV, doc, pm, an, cdv, ct, fun_mk h1 h2 (T.keep x j hk)⟩
/-- a module's whole number -/
theorem dnum {X : Cx} {x : Str} {n : Int} {pos : Pos} (hm : ∃ t, X.mg x = some (.int n t)) (hg : Gl X x := by rfl) (hdb : (x == ("__debug__" : Str)) = false := by decide) : PE X (.Name x pos) (liftE X.K Z (dC (.int n))) := by
  obtain ⟨t, h⟩ := hm
  exact dglob (v := .int n) h ⟨t, rfl⟩ (fun _ => .int n) hg hdb
end
section
variable {X : Cx} {k : Nat} {ps : List Str} {S : DSp} {x : Str} {p pos : Pos} {e : Expr} {es : List Expr} {was : DA}
theorem dcn (D : Dn X.prog X.w X.K X.mg X.base T x k ps S) (hr : Room k X.A) (hA : X.A.guards = some [])
    (ha : PA X (e :: es) (liftA X.K Z was)) (hg : Gl X x := by rfl) (hdb : (x == ("__debug__" : Str)) = false := by decide)
    (he : starEach (e :: es) X.env = (false, eval e X.env) :: starEach es X.env := by rfl) (hpl : (backTo pos (starEach es X.env)).any (·.1) = false := by rfl) : PE X (.Call (.Name x p) (e :: es) [] pos) (liftX X.K Z (dCall S was)) := by
  obtain ⟨fd, h1, h2⟩ := D.ex
  exact dcall h1 hr hA D.glo D.kp h2 ha hg hdb he hpl
theorem dcnC (i : Nat) {y : Str} {p0 : Pos} (D : Dn X.prog X.w X.K X.mg X.base T x k ps S) (hr : Room k X.A) (hA : X.A.guards = some [])
    (ha : PA X es (liftA X.K Z was)) (hN : X.N[i]? = some y := by rfl) (hv : Vis X.env.scope y := by first | exact Or.inl rfl | exact Or.inr (Or.inl rfl) | exact Or.inr (Or.inr rfl)) (hd : (y == ("__debug__" : Str)) = false := by decide)
    (hcd : (y == ("__classdict__" : Str)) = false := by decide) (hg : Gl X x := by rfl) (hdb : (x == ("__debug__" : Str)) = false := by decide)
    (he : starEach (.Name y p0 :: es) X.env = (false, eval (.Name y p0) X.env) :: starEach es X.env := by rfl) (hpl : (backTo pos (starEach es X.env)).any (·.1) = false := by rfl) :
    PE X (.Call (.Name x p) (.Name y p0 :: es) [] pos) (liftX X.K Z (dCallC S i was)) := by
  obtain ⟨fd, h1, h2⟩ := D.ex
  exact dcallC i h1 hr hA D.glo D.kp h2 ha hN hv hd hcd hg hdb he hpl
end
/-- the goal that a head by facts leaves -/
theorem walk_dataE {l : PySem.W.OpenLaw} {n k : Nat} {q : Program} {loose : List Str} {XP : (Str → Option Value) → Heap → Prop} {YP : World → Heap → Prop} {d : DefRec} {x : Str}
    (hn : l.most = some n) (hn2 : n ≤ sizeLine) (hdf : d.params.defaults = []) (hr : Room k callerA)
    (Fn : ∀ (w : World) (mg : Str → Option Value) (fa : Addr) (h : Heap), YP w h → h.Ns mainGlobals mg → mg d.name = some (.ref fa) →
      ∃ (K : PySem.W.Frag) (fd : FuncData), K.In h ∧ SysD h ∧ (∀ (s : Shared) (u : Value), BindsTo s fd ⟨[u], []⟩ [(x, u)]) ∧
        ∀ base : Heap, K.In base → base.Ns mainGlobals mg → SysD base → FnG l.prog w K mg base [] k fa fd [x] (lawS n)) :
    PySem.W.WalkO q loose XP YP l.row.toRowW d [] (fun f vs => PySem.call f vs) := by
  refine Att.attach_call hn hdf fun w s₀ s₁ mg mb fa o pm cd doc a vs ns G Y ho hd hcd hmg hobj hints hlen hg => ?_
  obtain ⟨K, fd, KX, hsys, hb, hF⟩ := Fn w mg fa _ Y G.T.g hmg
  exact law_data KX G.T.g G.T.b G.T.builtins G.T.nolimit hg hobj hints hlen hn2 hr hsys hF hb
theorem sysB_of {h : Heap} (e : sysB h.get? = true) : SysD h := by
  unfold sysB at e
  split at e
  · rename_i c di es ep sl z
    exact ⟨_, es, ep, z, rfl⟩
  · cases e
end DL

namespace DL
variable {T : List (PySem.Addr × PySem.Str)} {Z : Zx T}
open PySem PySem.Spec PyProof.Rows L2
open Evl (Ex)

mutual
/-- leaves that can be shown -/
def rp : PyData → Bool
  | .none => true
  | .bool _ => true
  | .int i => decide (i.natAbs < 10 ^ 250)
  | .str x => x.cps.toList.all fun c => decide (c < 16 ^ 8)
  | .list xs => rpAll xs
  | .tuple xs => rpAll xs
  | .dict kvs => kvs.isEmpty
def rpAll : List PyData → Bool
  | [] => true
  | x :: xs => rp x && rpAll xs
end
section
variable {X : Cx} {K : PySem.W.Frag} {e : Expr} {es : List Expr} {p pos : Pos} {was : DA} {k : Nat}
def nSum (xs : List PyData) (P : PyData → Prop) : Prop := match xs with
  | [.list ds] => (match intsD ds with | some ns => P (.int ns.sum) | none => False)
  | [.tuple ds] => (match intsD ds with | some ns => P (.int ns.sum) | none => False)
  | _ => False
end
end DL

namespace DL
variable {T : List (PySem.Addr × PySem.Str)} {Z : Zx T}
open PySem PySem.Spec PyProof.Rows L2

section
variable {I S : Type}
theorem qFor_go {b : PyData → I → S → (I → S → Prop) → (I → S → Prop) → Prop} {items : List PyData} {i : I} {K : S → Prop} (Inv : Nat → S → Prop)
    (step : ∀ (k : Nat) (d : PyData) (s : S) (nx : I → S → Prop), items[k]? = some d → Inv k s → (∀ s', Inv (k + 1) s' → nx i s') → b d i s nx (same i K))
    (fin : ∀ s, Inv items.length s → K s) : ∀ (m k : Nat) (s : S), k + m = items.length → Inv k s → qFor b i (items.drop k) s K
  | 0, k, s, hm, h => by
    have e : k = items.length := by omega
    subst e
    rw [List.drop_length]
    exact fin s h
  | m + 1, k, s, hm, h => by
    have hk : k < items.length := by omega
    rw [List.drop_eq_getElem_cons hk]
    exact step k _ s _ (by simp [hk]) h fun s' h' => ⟨rfl, qFor_go Inv step fin m (k + 1) s' (by omega) h'⟩
/-- a for, by what holds ahead of each turn -/
theorem qFor_ind {b : PyData → I → S → (I → S → Prop) → (I → S → Prop) → Prop} {items : List PyData} {i : I} {s : S} {K : S → Prop} (Inv : Nat → S → Prop) (h0 : Inv 0 s)
    (step : ∀ (k : Nat) (d : PyData) (s : S) (nx : I → S → Prop), items[k]? = some d → Inv k s → (∀ s', Inv (k + 1) s' → nx i s') → b d i s nx (same i K))
    (fin : ∀ s, Inv items.length s → K s) : qFor b i items s K := qFor_go Inv step fin items.length 0 s (by omega) h0
/-- a for over a range -/
theorem qFor_range {b : PyData → I → S → (I → S → Prop) → (I → S → Prop) → Prop} {lo : Int} {n : Nat} {i : I} {s : S} {K : S → Prop} (Inv : Nat → S → Prop) (h0 : Inv 0 s)
    (step : ∀ (k : Nat) (s : S) (nx : I → S → Prop), k < n → Inv k s → (∀ s', Inv (k + 1) s' → nx i s') → b (.int (lo + k)) i s nx (same i K))
    (fin : ∀ s, Inv n s → K s) : qFor b i (rangeD lo n) s K := by
  have hl : (rangeD lo n).length = n := by simp [rangeD]
  refine qFor_ind Inv h0 (fun k d s nx hd hi hn => ?_) fun s h => fin s (by rwa [hl] at h)
  unfold rangeD at hd
  rw [List.getElem?_map] at hd
  by_cases hk : k < n
  · rw [List.getElem?_range hk] at hd
    cases hd
    exact step k s nx hk hi hn
  · rw [List.getElem?_eq_none (by simp; omega)] at hd
    cases hd
theorem qWhile_go {b : I → S → (I → S → Prop) → (I → S → Prop) → Prop} {i : I} {K : S → Prop} (Inv : Nat → S → Prop)
    (step : ∀ (m : Nat) (s : S) (nx : I → S → Prop), Inv m s → (∀ m' s', m' < m → Inv m' s' → nx i s') → b i s nx (same i K)) : ∀ (n m : Nat) (s : S), m < n → Inv m s → qWhileN b i n s K
  | 0, _, _, h, _ => absurd h (Nat.not_lt_zero _)
  | n + 1, m, s, h, hi => step m s _ hi fun m' s' hm hi' => ⟨rfl, qWhile_go Inv step n m' s' (by omega) hi'⟩
/-- a while, by a measure that falls -/
theorem qWhile_ind {b : I → S → (I → S → Prop) → (I → S → Prop) → Prop} {i : I} {s : S} {K : S → Prop} (Inv : Nat → S → Prop) {m : Nat} (h0 : Inv m s)
    (step : ∀ (m : Nat) (s : S) (nx : I → S → Prop), Inv m s → (∀ m' s', m' < m → Inv m' s' → nx i s') → b i s nx (same i K)) : qWhile b i s K := ⟨m + 1, qWhile_go Inv step (m + 1) m s (Nat.lt_succ_self m) h0⟩
theorem qLc_go {b : PyData → I → S → (I → S → Prop) → (PyData → I → S → Prop) → Prop} {items : List PyData} {i : I} {K : List PyData → S → Prop} (Inv : Nat → List PyData → S → Prop)
    (step : ∀ (k : Nat) (d : PyData) (acc : List PyData) (s : S) (sk : I → S → Prop) (yd : PyData → I → S → Prop), items[k]? = some d → Inv k acc s → (∀ s', Inv (k + 1) acc s' → sk i s') →
      (∀ y s', acc.length < 100000 → Inv (k + 1) (acc ++ [y]) s' → yd y i s') → b d i s sk yd) (hz : ∀ k acc s, k < items.length → Inv k acc s → acc.length < 100000)
    (fin : ∀ acc s, Inv items.length acc s → K acc s) : ∀ (m k : Nat) (acc : List PyData) (s : S), k + m = items.length → Inv k acc s → qLc b i (items.drop k) acc s K
  | 0, k, acc, s, hm, h => by
    have e : k = items.length := by omega
    subst e
    rw [List.drop_length]
    exact fin acc s h
  | m + 1, k, acc, s, hm, h => by
    have hk : k < items.length := by omega
    rw [List.drop_eq_getElem_cons hk]
    exact step k _ acc s _ _ (by simp [hk]) h (fun s' h' => ⟨rfl, qLc_go Inv step hz fin m (k + 1) acc s' (by omega) h'⟩) fun y s' hl h' => ⟨rfl, hz k acc s hk h, qLc_go Inv step hz fin m (k + 1) (acc ++ [y]) s' (by omega) h'⟩
/-- a comprehension, by what holds ahead of each turn -/
theorem qLc_ind {b : PyData → I → S → (I → S → Prop) → (PyData → I → S → Prop) → Prop} {items : List PyData} {i : I} {s : S} {K : List PyData → S → Prop} (Inv : Nat → List PyData → S → Prop) (h0 : Inv 0 [] s)
    (hz : ∀ k acc s, k < items.length → Inv k acc s → acc.length < 100000)
    (step : ∀ (k : Nat) (d : PyData) (acc : List PyData) (s : S) (sk : I → S → Prop) (yd : PyData → I → S → Prop), items[k]? = some d → Inv k acc s → (∀ s', Inv (k + 1) acc s' → sk i s') →
      (∀ y s', Inv (k + 1) (acc ++ [y]) s' → yd y i s') → b d i s sk yd)
    (fin : ∀ acc s, Inv items.length acc s → K acc s) : qLc b i items [] s K :=
  qLc_go Inv (fun k d acc s sk yd hd hi h1 h2 => step k d acc s sk yd hd hi h1 fun y s' h => h2 y s' (hz k acc s (List.getElem?_eq_some_iff.mp hd).1 hi) h) hz fin items.length 0 [] s (by omega) h0
/-- [f x for x in items], nothing changed -/
theorem qLc_map {b : PyData → I → S → (I → S → Prop) → (PyData → I → S → Prop) → Prop} {items : List PyData} {i : I} {s : S} {K : List PyData → S → Prop} (f : PyData → PyData) (hz : items.length ≤ 100000)
    (step : ∀ d ∈ items, ∀ (sk : I → S → Prop) (yd : PyData → I → S → Prop), yd (f d) i s → b d i s sk yd) (fin : K (items.map f) s) : qLc b i items [] s K :=
  qLc_ind (fun k acc s' => acc = (items.take k).map f ∧ s' = s) ⟨by simp, rfl⟩ (fun k acc s' hk h => by rw [h.1]; simp; omega)
    (fun k d acc s' sk yd hd ⟨h1, h2⟩ _ hy => by
      subst h2
      refine step d (List.mem_of_getElem? hd) sk yd (hy _ _ ⟨?_, rfl⟩)
      rw [List.take_add_one, hd, h1]
      simp) fun acc s' ⟨h1, h2⟩ => by
      subst h1 h2
      rw [List.take_length]
      exact fin
/-- [.. for x in items if ..], nothing changed -/
theorem qLc_fmap {b : PyData → I → S → (I → S → Prop) → (PyData → I → S → Prop) → Prop} {items : List PyData} {i : I} {s : S} {K : List PyData → S → Prop} (f : PyData → Option PyData) (hz : items.length ≤ 100000)
    (step : ∀ d ∈ items, ∀ (sk : I → S → Prop) (yd : PyData → I → S → Prop), (∀ y, f d = some y → yd y i s) → (f d = none → sk i s) → b d i s sk yd) (fin : K (items.filterMap f) s) : qLc b i items [] s K :=
  qLc_ind (fun k acc s' => acc = (items.take k).filterMap f ∧ s' = s) ⟨by simp, rfl⟩ (fun k acc s' hk h => by
      rw [h.1]
      exact Nat.lt_of_le_of_lt (List.length_filterMap_le f _) (by simp; omega))
    (fun k d acc s' sk yd hd ⟨h1, h2⟩ hs hy => by
      subst h2
      refine step d (List.mem_of_getElem? hd) sk yd (fun y e => hy _ _ ⟨?_, rfl⟩) fun e => hs _ ⟨?_, rfl⟩
      · rw [List.take_add_one, hd, h1]
        simp [e]
      · rw [List.take_add_one, hd, h1]
        simp [e]) fun acc s' ⟨h1, h2⟩ => by
      subst h1 h2
      rw [List.take_length]
      exact fin
end
theorem ixN_in {n : Nat} {k : Int} (h0 : 0 ≤ k) (h1 : k < n) : ixN n k = some k.toNat := by
  unfold ixN
  rw [if_pos h0, if_pos h1]
theorem atI_in {xs : List PyData} {k : Int} (h0 : 0 ≤ k) (h1 : k < xs.length) : ∃ d, atI xs k = some d ∧ d ∈ xs := by
  unfold atI
  rw [ixN_in h0 h1]
  have hk : k.toNat < xs.length := by omega
  exact ⟨xs[k.toNat], by simp [hk], List.getElem_mem hk⟩
theorem at_of {xs : List PyData} {k : Int} {P : PyData → Prop} (h0 : 0 ≤ k) (h1 : k < xs.length) (h : ∀ d ∈ xs, P d) : pick xs k P := by
  obtain ⟨d, e, m⟩ := atI_in h0 h1
  unfold pick
  rw [e]
  exact h d m
theorem pick_eq {xs : List PyData} {k : Int} {P : PyData → Prop} {d : PyData} (e : atI xs k = some d) : pick xs k P = P d := by
  unfold pick
  rw [e]
end DL

namespace DL
variable {T : List (PySem.Addr × PySem.Str)} {Z : Zx T}
open PySem PySem.Spec PyProof.Rows L2
open Evl (Ex)

section
variable {X : Cx} {a b e : Expr} {es : List Expr} {we wa wb : DE} {was : DA} {pos p2 p : Pos} {K : PySem.W.Frag}
abbrev DO := List SD → (Option Int → List SD → Prop) → Prop
def liftO (K : PySem.W.Frag) (Z : Zx T) (w : DO) : TO := fun σ H Q => ∃ (g : Gx Z) (F : Hp) (env : List SD) (P : Option Int → List SD → Prop), Ok K g F env σ H ∧ w env P ∧
  ∀ o env' F' H', P o env' → Ex F F' → Ok K g F' env' σ H' → Q o H'
theorem PO.of {e : Option Expr} {t t' : TO} (h : PO X e t) (w : ∀ σ H Q, t' σ H Q → t σ H Q) : PO X e t' := ⟨fun pins s σ H Q I q => h.run pins s σ H Q I (w σ H Q q)⟩
abbrev dNo (env : List SD) (P : Option Int → List SD → Prop) : Prop := P none env
def soQ (x : PyData) (K : Option Int → Prop) : Prop := match x with
  | .int i => K (some i)
  | _ => False
abbrev dSo (w : DE) (env : List SD) (P : Option Int → List SD → Prop) : Prop := w env fun x env' => soQ x fun o => P o env'
theorem so_none : PO X none (liftO X.K Z dNo) := PO.of po_none fun σ H Q ⟨g, F, env, P, k, w, q⟩ => q none env F H w (Ex.refl F) k
theorem so_some (h : PE X e (liftE X.K Z we)) : PO X (some e) (liftO X.K Z (dSo we)) := PO.of (po_some h) fun σ H Q ⟨g, F, env, P, k, w, q⟩ =>
  ⟨g, F, env, _, k, w, fun d env1 v F1 H1 p e1 k1 r1 => by
    unfold soQ at p
    split at p
    · cases r1.inv_int
      exact ⟨_, rfl, q _ env1 F1 H1 p e1 k1⟩
    · exact p.elim⟩
/-- the items of ds[lo:hi] -/
def cutD (ds : List PyData) (lo hi : Option Int) : List PyData := (ds.drop (HT.sIx ds.length 0 lo)).take (HT.sIx ds.length ds.length hi - HT.sIx ds.length 0 lo)
theorem DRs.cut {H : Hp} {vs : List V} {ds : List PyData} (lo hi : Option Int) (h : DRs K H vs ds) : DRs K H (cutV vs lo hi) (cutD ds lo hi) := by
  unfold cutV cutD
  rw [h.length]
  exact (h.drop _).take _
def oSl (x : PyData) (lo hi : Option Int) (P : PyData → Prop) : Prop := match x with
  | .tuple ds => P (.tuple (cutD ds lo hi))
  | .list ds => P (.list (cutD ds lo hi))
  | .str z => z.length ≤ 100000 ∧ P (.str (cutS z lo hi))
  | _ => False
abbrev dSl (w : DE) (l h : DO) (env : List SD) (P : PyData → List SD → Prop) : Prop := w env fun x env1 => l env1 fun lo env2 => h env2 fun hi env3 => oSl x lo hi fun d => P d env3
theorem cutD_whole {xs : List PyData} {lo hi : Option Int} (h : HT.sIx xs.length 0 lo = 0 ∧ HT.sIx xs.length xs.length hi = xs.length) : cutD xs lo hi = xs := by
  unfold cutD
  rw [h.1, h.2]
  simp
theorem dsl {l u : Option Expr} {tl tu : DO} (he : PE X e (liftE X.K Z we)) (hl : PO X l (liftO X.K Z tl)) (hu : PO X u (liftO X.K Z tu)) : PE X (.Subscript e (.Slice l u none p2) pos) (liftE X.K Z (dSl we tl tu)) :=
  PE.of (pe_slice (SlR.or sl_tupZ (SlR.or sl_list sl_str)) he hl hu) fun σ H Q ⟨g, F, env, P, k, w, q⟩ =>
    ⟨g, F, env, _, k, w, fun d env1 v F1 H1 p e1 k1 r1 => ⟨g, F1, env1, _, k1, p, fun lo env2 F2 H2 p2 e2 k2 => ⟨g, F2, env2, _, k2, p2, fun hi env3 F3 H3 p3 e3 k3 => by
      have r3 := (r1.mono e2).mono e3
      have e13 := e1.trans (e2.trans e3)
      unfold oSl at p3
      split at p3
      · rename_i ds
        obtain ⟨a, us, rfl, h1, h2⟩ := r3.inv_tup
        refine .inl ⟨a, us, rfl, Evl.ex_t k3.fh h1, fun hw => ?_, fun _ x o hx ho => ?_⟩
        · rw [h2.length] at hw
          rw [cutD_whole hw] at p3
          exact q _ env3 _ F3 H3 p3 e13 k3 r3
        · obtain ⟨e4, k4, r4⟩ := k3.newTup hx ho (h2.cut lo hi)
          exact q _ env3 _ _ _ p3 (e13.trans e4) k4 r4
      · rename_i ds
        obtain ⟨a, us, rfl, h1, h2⟩ := r3.inv_lst
        refine .inr (.inl ⟨a, us, rfl, (h1.mono k3.fh).sq, fun x hx => ?_⟩)
        obtain ⟨e4, k4, r4⟩ := k3.newLst hx (h2.cut lo hi)
        exact q _ env3 _ _ _ p3 (e13.trans e4) k4 r4
      · cases r3.inv_str
        exact .inr (.inr ⟨_, rfl, sz2 p3.1, q _ env3 _ F3 H3 p3.2 e13 k3 (.str _)⟩)
      · exact p3.elim⟩⟩⟩
def lstQ (x : PyData) (K : List PyData → Prop) : Prop := match x with
  | .list ds => K ds
  | _ => False
def nInt (xs : List PyData) (P : PyData → Prop) : Prop := match xs with
  | [.int i] => P (.int i)
  | [.bool i] => P (.int (if i then 1 else 0))
  | _ => False
theorem dintOf (hm : X.mg "int" = none) (ha : PA X (e :: es) (liftA X.K Z was)) (hg : Gl X "int" := by rfl)
    (he : starEach (e :: es) X.env = (false, eval e X.env) :: starEach es X.env := by rfl) (hpl : (backTo pos (starEach es X.env)).any (·.1) = false := by rfl) : PE X (.Call (.Name "int" p) (e :: es) [] pos) (liftE X.K Z (dB nInt was)) :=
  dct call_int1 (fun _ _ g F env σ H vs ds P Q k r f q => by
    unfold nInt at f
    split at f
    · obtain ⟨v, rfl, r0⟩ := r.inv1
      cases r0.inv_int
      exact .inl ⟨_, rfl, q _ _ F H f (Ex.refl F) k (.int _)⟩
    · obtain ⟨v, rfl, r0⟩ := r.inv1
      cases r0.inv_bool
      exact .inr ⟨_, rfl, q _ _ F H f (Ex.refl F) k (.int _)⟩
    · exact f.elim) hm (by decide +kernel) ha hg (by decide) (by decide) he hpl
def nTuple (xs : List PyData) (P : PyData → Prop) : Prop := match xs with
  | [.list ds] => P (.tuple ds)
  | [.tuple ds] => P (.tuple ds)
  | [.dict [(.none, .list ds)]] => P (.tuple ds)
  | _ => False
def nList (xs : List PyData) (P : List PyData → Prop) : Prop := match xs with
  | [.list ds] => P ds
  | [.tuple ds] => P ds
  | _ => False
/-- list(..): a new cell -/
abbrev dListOf (wa : DA) (env : List SD) (P : SD → List SD → Prop) : Prop := wa env fun xs env' => nList xs fun ds => P (.cel false ds) env'
theorem dlistOf (hm : X.mg "list" = none) (ha : PA X (e :: es) (liftA X.K Z was)) (hg : Gl X "list" := by rfl)
    (he : starEach (e :: es) X.env = (false, eval e X.env) :: starEach es X.env := by rfl) (hpl : (backTo pos (starEach es X.env)).any (·.1) = false := by rfl) : PE X (.Call (.Name "list" p) (e :: es) [] pos) (liftX X.K Z (dListOf was)) :=
  PE.of (pe_callTy call_list_of hg hm (by decide +kernel) ha (by decide) (by decide) he hpl) fun σ H Q ⟨g, F, env, P, k, w, q⟩ =>
    ⟨g, F, env, _, k, w, fun ds env1 vs F1 H1 p e1 k1 r1 => by
      unfold nList at p
      split at p
      · obtain ⟨v, rfl, r0⟩ := r1.inv1
        obtain ⟨a, us, rfl, h1, h2⟩ := r0.inv_lst
        refine ⟨a, us, rfl, .inl (h1.mono k1.fh).sq, fun x hx => ?_⟩
        obtain ⟨k4, r4⟩ := k1.newCell hx h2
        exact q _ _ _ _ _ p e1 k4 r4
      · obtain ⟨v, rfl, r0⟩ := r1.inv1
        obtain ⟨a, us, rfl, h1, h2⟩ := r0.inv_tup
        refine ⟨a, us, rfl, .inr (Evl.ex_t k1.fh h1), fun x hx => ?_⟩
        obtain ⟨k4, r4⟩ := k1.newCell hx h2
        exact q _ _ _ _ _ p e1 k4 r4
      · exact p.elim⟩
end
end DL

namespace DL
variable {T : List (PySem.Addr × PySem.Str)} {Z : Zx T}
open PySem PySem.Spec PyProof.Rows L2
open Evl (Ex)

section
variable {X : Cx} {a b e : Expr} {es : List Expr} {we wa wb : DE} {was : DA} {pos p p1 p2 p3 : Pos} {K : PySem.W.Frag}
theorem DRs.snoc {H : Hp} {v : V} {d : PyData} : ∀ {vs : List V} {ds : List PyData}, DRs K H vs ds → DR K H v d → DRs K H (vs ++ [v]) (ds ++ [d])
  | _, _, .nil, r => .cons r .nil
  | _, _, .cons h t, r => .cons h (DRs.snoc t r)
theorem DRs.rev {H : Hp} : ∀ {vs : List V} {ds : List PyData}, DRs K H vs ds → DRs K H vs.reverse ds.reverse
  | _, _, .nil => .nil
  | _, _, .cons h t => by
    rw [List.reverse_cons, List.reverse_cons]
    exact DRs.snoc (DRs.rev t) h
end
end DL

namespace DL
variable {T : List (PySem.Addr × PySem.Str)} {Z : Zx T}
open PySem PySem.Spec PyProof.Rows L2
open Evl (Ex)

def jn {α : Type} (f : α → Prop) (k : α) : Prop := f k
def tAnd (b : Bool) (u : (Bool → Prop) → Prop) (K : Bool → Prop) : Prop := bIf b (u K) (K false)
def tOr (b : Bool) (u : (Bool → Prop) → Prop) (K : Bool → Prop) : Prop := bIf b (K true) (u K)
def vAnd (b : Bool) (u : (PyData → Prop) → Prop) (K : PyData → Prop) : Prop := bIf b (u K) (K (.bool false))
def vOr (b : Bool) (u : (PyData → Prop) → Prop) (K : PyData → Prop) : Prop := bIf b (K (.bool true)) (u K)
def vIf (b : Bool) (u v : (PyData → Prop) → Prop) (K : PyData → Prop) : Prop := bIf b (u K) (v K)
theorem at_env {t : DS} {E : DEnds} {a b : List SD} (e : a = b) (h : t E b) : t E a := e ▸ h
theorem cels1 {c : List PyData} {ds : List PyData} {i : Nat} {p : Bool} {xs : List PyData} (e : (SD.cel true c :: ds.map .dat)[i]? = some (.cel p xs)) : i < 1 := by
  cases i with
  | zero => exact Nat.zero_lt_one
  | succ i => exact absurd (by simpa using e) (no_cel (ds := ds) i p xs)
end DL

namespace DL
variable {T : List (PySem.Addr × PySem.Str)} {Z : Zx T}
open PySem PySem.Spec PyProof.Rows L2
open Evl (Ex)
section
variable {X : Cx} {a b e : Expr} {es : List Expr} {we wa wb : DE} {was : DA} {pos p p1 p2 p3 : Pos} {K : PySem.W.Frag} {m : Nat}
theorem DRs.flat {F : Hp} {vs : List V} {ds : List PyData} (r : DRs K F vs ds) : ∀ n : Nat, DRs K F (List.replicate n vs).flatten (List.replicate n ds).flatten
  | 0 => .nil
  | n + 1 => by
    rw [List.replicate_succ, List.replicate_succ, List.flatten_cons, List.flatten_cons]
    exact r.append (DRs.flat r n)
theorem tuple_mul1 (l : Addr) (items : Array Value) (n : Nat) (dd : Option Addr) (sl : Array (Option Value)) (u : Tok) :
    Meets (Builtin.«tuple.__mul__» ⟨[.ref l, .int 1 u], []⟩) (fun _ R s => s.heap.get? l = some { cls := .type "tuple", dict := dd, data := .seq items n, slots := sl } ∧ R (.ok (.ret (Value.ref l))) s) :=
  .of_wp fun prog w A R s h => by
    obtain ⟨hp, g, d, tk, os⟩ := s
    obtain ⟨hl, h⟩ := h
    have f1 := AutoSeq1.idx_int
    have c1 : (items.isEmpty || (1 : Int) == 1) = true := by simp
    wp_walk using wpAny_loadPart' hl
    repeat (first
      | (refine wpAny_ite_false (decide_eq_false (by decide)) ?_; wp_walk using wpAny_loadPart' hl)
      | (refine wpAny_ite_true (decide_eq_true c1) ?_; wp_walk using wpAny_loadPart' hl))
    exact ⟨_, rfl, h⟩
def rRepT1 (K : PySem.W.Frag) : R2 := fun x y H Q => ∃ l xs, x = .ref l ∧ y = .int 1 ∧ SqT K H l xs ∧ Q (.ref l) H
theorem op_repT1 {X : Cx} : OpR X (binaryOp .Mult) (rRepT1 X.K) := by
  intro pins s σ H x y v u Q I rx ry h
  obtain ⟨l, xs, rfl, rfl, hT, q⟩ := h
  cases rx
  obtain ⟨t, rfl⟩ := ry
  obtain ⟨its, r, ⟨⟨cls, dd, data, sl⟩, ho, hc, n, hd⟩, hs⟩ := I.tuple hT
  simp only at hc hd
  subst hc hd
  exact wpAny_binaryOp_repeat_ref (T := "tuple") (U := "int") (by decide) ⟨_, ho, rfl⟩ (fun s' => typeIs_int s' 1 t) noFill_tuple_mul F.fills_int_mul F.slot_int_rmul repeat_tuple F.slot_int_index.lookup
    (call_meets F.slot_int_rmul (typeIs_int s 1 t) F.entry_int_rmul (F.args_int_rmul_2 _ _) (int_rmul_tuple 1 t l its.toArray n dd sl)
      ⟨ho, rfl, ⟨_, ho, rfl⟩, call_meets F.slot_tuple_mul ⟨_, ho, rfl⟩ F.entry_tuple_mul (F.args_tuple_mul_2 _ _) (tuple_mul1 l its.toArray n dd sl t) ⟨ho, ⟨.ref l, H, I, rfl, q⟩⟩⟩)
def oMul (x y : PyData) (P : PyData → Prop) : Prop := match x, y with
  | .int i, .int j => (Sz i ∧ Sz j) ∧ P (.int (i * j))
  | .tuple xs, .int k => (xs ≠ [] ∧ 1 ≤ k ∧ k ≤ 1000 ∧ xs.length ≤ 1000) ∧ P (.tuple (List.replicate k.toNat xs).flatten)
  | _, _ => False
theorem opd_mul {r : R2} (h : OpD K r oMulI) : OpD K (fun x y H Q => r x y H Q ∨ (rRepT1 K x y H Q ∨ rRepZ K x y H Q)) oMul := by
  intro _ _ g F env σ H vx vy dx dy P Q k rx ry p q
  unfold oMul at p
  split at p
  · exact .inl (h _ _ g F env σ H vx vy _ _ P Q k rx ry p q)
  · rename_i xs n
    cases ry.inv_int
    obtain ⟨a, us, rfl, h1, h2⟩ := rx.inv_tup
    obtain ⟨⟨z1, z2, z3, z4⟩, p⟩ := p
    by_cases e1 : n = 1
    · subst e1
      have e : (List.replicate (Int.toNat 1) xs).flatten = xs := by
        show (List.replicate 1 xs).flatten = xs
        simp
      rw [e] at p
      exact .inr (.inl ⟨a, us, rfl, rfl, Evl.ex_t k.fh h1, q _ _ F H p (Ex.refl F) k rx⟩)
    refine .inr (.inr ⟨a, n, us, rfl, rfl, Evl.ex_t k.fh h1, fun e => z1 ?_, by omega, z3, by rw [h2.length]; exact z4, fun x o hx ho => ?_⟩)
    · subst e
      cases h2
      rfl
    · obtain ⟨e2, k2, r2⟩ := k.newTup hx ho (DRs.flat h2 n.toNat)
      exact q _ _ _ _ p e2 k2 r2
  · exact p.elim
theorem dmul (ha : PE X a (liftE X.K Z wa)) (hb : PE X b (liftE X.K Z wb)) : PE X (.BinOp a .Mult b pos) (liftE X.K Z (dOp oMul wa wb)) := dop (OpR.or op_mulW (OpR.or op_repT1 op_repZ)) (opd_mul (opd_I (fun _ _ h => by have h1 := h.1.log; have h2 := h.2.log; unfold CMulW; omega) fun _ _ _ => .int _)) ha hb
/-- xs[::-1] of a list, that stays -/
def oRev (x : PyData) (P : PyData → Prop) : Prop := lstQ x fun ds => P (.list ds.reverse)
end
end DL

namespace DL
variable {T : List (PySem.Addr × PySem.Str)} {Z : Zx T}
open PySem PySem.Spec PyProof.Rows L2
section
variable {P K : PyData → Prop} {a b c : Int} {x y : PyData} {xs ys : List PyData} {T : Bool → Prop}
theorem q_bT : bT (.bool t) T = T t := rfl
theorem q_add : oAdd (.int a) (.int b) P = P (.int (a + b)) := rfl
theorem q_addT : oAdd (.tuple xs) (.tuple ys) P = (xs.length + ys.length ≤ 100000 ∧ P (.tuple (xs ++ ys))) := rfl
theorem q_addL : oAdd (.list xs) (.list ys) P = (xs.length + ys.length ≤ 100000 ∧ P (.list (xs ++ ys))) := rfl
theorem q_addS {i j : Str} : oAdd (.str i) (.str j) P = (i.length + j.length ≤ 100000 ∧ P (.str (i ++ j))) := rfl
theorem q_sub : oSub (.int a) (.int b) P = P (.int (a - b)) := rfl
theorem q_mul : oMul (.int a) (.int b) P = ((Sz a ∧ Sz b) ∧ P (.int (a * b))) := rfl
theorem q_mulT : oMul (.tuple xs) (.int b) P = ((xs ≠ [] ∧ 1 ≤ b ∧ b ≤ 1000 ∧ xs.length ≤ 1000) ∧ P (.tuple (List.replicate b.toNat xs).flatten)) := rfl
theorem q_div : oDiv (.int a) (.int b) P = ((0 < b ∧ Sz b) ∧ P (.int (a / b))) := rfl
theorem q_mod : oMod (.int a) (.int b) P = (0 < b ∧ P (.int (a % b))) := rfl
theorem q_pow : oPow (.int a) (.int b) P = ((Sz a ∧ 0 ≤ b ∧ b ≤ 10000) ∧ P (.int (a ^ b.toNat))) := rfl
theorem q_neg : oNeg (.int a) P = P (.int (-a)) := rfl
theorem q_lt : oLt (.int a) (.int b) P = P (.bool (decide (a < b))) := rfl
theorem q_le : oLe (.int a) (.int b) P = P (.bool (decide (a ≤ b))) := rfl
theorem q_gt : oGt (.int a) (.int b) P = P (.bool (decide (b < a))) := rfl
theorem q_ge : oGe (.int a) (.int b) P = P (.bool (decide (b ≤ a))) := rfl
theorem q_oI {f : Int → Int → PyData} : oI f (.int a) (.int b) P = P (f a b) := rfl
theorem shaped_int : SeqAt.shaped (.int a) = true := by unfold SeqAt.shaped; rfl
theorem q_eq : oEq (.int a) (.int b) P = P (.bool (decide (a = b))) := by
  show ((SeqAt.shaped (.int a) = true ∧ SeqAt.shaped (.int b) = true) ∧ P (.bool (eqD (.int a) (.int b)))) = _
  rw [eqD_int]
  simp only [shaped_int, and_self, true_and]
theorem q_ne : oNe (.int a) (.int b) P = P (.bool (!decide (a = b))) := by
  show ((SeqAt.shaped (.int a) = true ∧ SeqAt.shaped (.int b) = true) ∧ P (.bool (!eqD (.int a) (.int b)))) = _
  rw [eqD_int]
  simp only [shaped_int, and_self, true_and]
theorem shaped_bool {t : Bool} : SeqAt.shaped (.bool t) = true := by unfold SeqAt.shaped; rfl
theorem eqD_bool {t u : Bool} : eqD (.bool t) (.bool u) = decide (t = u) := by
  rw [eqD_eq]
  cases t <;> cases u <;> simp [PyData.eqv]
theorem q_eqB {t u : Bool} : oEq (.bool t) (.bool u) P = P (.bool (decide (t = u))) := by
  show ((SeqAt.shaped (.bool t) = true ∧ SeqAt.shaped (.bool u) = true) ∧ P (.bool (eqD (.bool t) (.bool u)))) = _
  rw [eqD_bool]
  simp only [shaped_bool, and_self, true_and]
theorem q_neB {t u : Bool} : oNe (.bool t) (.bool u) P = P (.bool (!decide (t = u))) := by
  show ((SeqAt.shaped (.bool t) = true ∧ SeqAt.shaped (.bool u) = true) ∧ P (.bool (!eqD (.bool t) (.bool u)))) = _
  rw [eqD_bool]
  simp only [shaped_bool, and_self, true_and]
theorem q_eqS {i j : Str} : oEq (.str i) (.str j) P = P (.bool (decide (i = j))) := rfl
theorem q_neS {i j : Str} : oNe (.str i) (.str j) P = P (.bool (!decide (i = j))) := rfl
theorem q_isN : oIsN .none P = P (.bool true) := rfl
theorem q_isNi : oIsN (.int a) P = P (.bool false) := rfl
theorem q_isNt : oIsN (.tuple xs) P = P (.bool false) := rfl
theorem q_isNs {i : Str} : oIsN (.str i) P = P (.bool false) := rfl
theorem q_notN : oNotN .none P = P (.bool false) := rfl
theorem q_notNi : oNotN (.int a) P = P (.bool true) := rfl
theorem q_notNt : oNotN (.tuple xs) P = P (.bool true) := rfl
theorem q_ix : oIx (.tuple xs) (.int a) P = pick xs a P := rfl
theorem q_ixL : oIx (.list xs) (.int a) P = pick xs a P := rfl
theorem q_ixQ : ixQ xs (.int a) P = pick xs a P := rfl
theorem q_len : nLen [.list xs] P = P (.int (xs.length : Nat)) := rfl
theorem q_lenT : nLen [.tuple xs] P = P (.int (xs.length : Nat)) := rfl
theorem q_lenS {i : Str} : nLen [.str i] P = (i.length ≤ 100000 ∧ P (.int (i.length : Nat))) := rfl
theorem q_abs : nAbs [.int a] P = P (.int (if a < 0 then -a else a)) := rfl
theorem q_min : nMin2 [.int a, .int b] P = P (.int (if b < a then b else a)) := rfl
theorem q_max : nMax2 [.int a, .int b] P = P (.int (if b > a then b else a)) := rfl
theorem q_tupleOf : nTuple [.list xs] P = P (.tuple xs) := rfl
theorem q_tupleOfT : nTuple [.tuple xs] P = P (.tuple xs) := rfl
theorem q_int : nInt [.int a] P = P (.int a) := rfl
theorem q_intB {t : Bool} : nInt [.bool t] P = P (.int (if t then 1 else 0)) := rfl
theorem q_list {P : List PyData → Prop} : nList [.list xs] P = P xs := rfl
theorem q_listT {P : List PyData → Prop} : nList [.tuple xs] P = P xs := rfl
theorem q_tup {K : List PyData → Prop} : tupQ (.tuple xs) K = K xs := rfl
theorem q_cons {K : PyData → List PyData → Prop} : consQ (x :: xs) K = K x xs := rfl
theorem q_nil {p : Prop} : nilQ [] p = p := rfl
theorem q_so {K : Option Int → Prop} : soQ (.int a) K = K (some a) := rfl
theorem q_lst {K : List PyData → Prop} : lstQ (.list xs) K = K xs := rfl
theorem q_items {K : List PyData → Prop} : itemsQ (.list xs) K = K xs := At.eq
theorem q_itemsT {K : List PyData → Prop} : itemsQ (.tuple xs) K = K xs := At.eq
theorem q_slT {lo hi : Option Int} : oSl (.tuple xs) lo hi P = P (.tuple (DL.cutD xs lo hi)) := rfl
theorem q_slL {lo hi : Option Int} : oSl (.list xs) lo hi P = P (.list (DL.cutD xs lo hi)) := rfl
theorem q_rev : oRev (.list xs) P = P (.list xs.reverse) := rfl
theorem q_zip {K : List PyData → Prop} : zipQ [.list xs, .list ys] K = K (zipD xs ys) := At.eq
theorem q_zipT {K : List PyData → Prop} : zipQ [.tuple xs, .tuple ys] K = K (zipD xs ys) := At.eq
theorem q_rng1 {K : List PyData → Prop} : rng1 [.int a] K = ((-1000000 ≤ a ∧ a ≤ 1000000) ∧ K (rangeD 0 a.toNat)) := by
  show (_ ∧ At _ _) = _
  rw [At.eq]
theorem q_rng2 {K : List PyData → Prop} : rng2 [.int a, .int b] K = ((-1000000 ≤ a ∧ a ≤ 1000000 ∧ -1000000 ≤ b ∧ b ≤ 1000000) ∧ K (rangeD a (b - a).toNat)) := by
  show (_ ∧ At _ _) = _
  rw [At.eq]
theorem q_all : nAll [.list xs] P = (match boolsD xs with | some bs => P (.bool (bs.all id)) | none => False) := rfl
theorem q_any : nAny [.list xs] P = (match boolsD xs with | some bs => P (.bool (bs.any id)) | none => False) := rfl
theorem q_sum : nSum [.list xs] P = (match intsD xs with | some bs => P (.int bs.sum) | none => False) := rfl
theorem q_sumT : nSum [.tuple xs] P = (match intsD xs with | some bs => P (.int bs.sum) | none => False) := rfl
theorem q_ap {K : List PyData → Prop} : apQ xs x K = (xs.length < 100000 ∧ K (xs ++ [x])) := rfl
theorem bools_map (ds : List PyData) (f : PyData → Bool) : boolsD (ds.map fun d => .bool (f d)) = some (ds.map f) := by
  induction ds with
  | nil => rfl
  | cons d ds ih => simp [boolsD, ih]
theorem ints_map (ns : List Int) : intsD (ns.map .int) = some ns := by
  induction ns with
  | nil => rfl
  | cons d ds ih => simp [intsD, ih]
theorem q_sumI {ns : List Int} : nSum [.list (ns.map .int)] P = P (.int ns.sum) := by rw [q_sum, ints_map]
theorem q_sumTI {ns : List Int} : nSum [.tuple (ns.map .int)] P = P (.int ns.sum) := by rw [q_sumT, ints_map]
theorem q_allB {ds : List PyData} {f : PyData → Bool} : nAll [.list (ds.map fun d => .bool (f d))] P = P (.bool (ds.all f)) := by
  rw [q_all, bools_map]
  simp only [List.all_map]
  rfl
theorem q_anyB {ds : List PyData} {f : PyData → Bool} : nAny [.list (ds.map fun d => .bool (f d))] P = P (.bool (ds.any f)) := by
  rw [q_any, bools_map]
  simp only [List.any_map]
  rfl
section
variable {S : Prop} {t : Bool} {u : (Bool → Prop) → Prop} {v : (PyData → Prop) → Prop} {K : Bool → Prop} {L : PyData → Prop}
theorem q_same {I S : Type} {i : I} {N : S → Prop} {s : S} : same i N i s = N s := propext ⟨fun h => h.2, fun h => ⟨rfl, h⟩⟩
theorem q_jn {α : Type} {f : α → Prop} {k : α} : jn f k = f k := rfl
theorem q_tAnd_k {b c : Bool} {K : Bool → Prop} : tAnd b (fun k => k c) K = K (b && c) := by cases b <;> rfl
theorem q_tOr_k {b c : Bool} {K : Bool → Prop} : tOr b (fun k => k c) K = K (b || c) := by cases b <;> rfl
theorem q_vAnd_k {b c : Bool} : vAnd b (fun k => k (.bool c)) L = L (.bool (b && c)) := by cases b <;> rfl
theorem q_vOr_k {b c : Bool} : vOr b (fun k => k (.bool c)) L = L (.bool (b || c)) := by cases b <;> rfl
theorem q_tAnd_s {b c : Bool} {K : Bool → Prop} {S : Prop} : tAnd b (fun k => S ∧ k c) K = ((b = true → S) ∧ K (b && c)) := by
  cases b
  · simp only [Bool.false_eq_true, false_imp_iff, true_and]; rfl
  · simp only [true_imp_iff, Bool.true_and]; rfl
theorem q_tOr_s {b c : Bool} {K : Bool → Prop} {S : Prop} : tOr b (fun k => S ∧ k c) K = ((b = false → S) ∧ K (b || c)) := by
  cases b
  · simp only [true_imp_iff, Bool.false_or]; rfl
  · simp only [Bool.true_eq_false, false_imp_iff, true_and]; rfl
theorem q_vAnd_s {b c : Bool} {S : Prop} : vAnd b (fun k => S ∧ k (.bool c)) L = ((b = true → S) ∧ L (.bool (b && c))) := by
  cases b
  · simp only [Bool.false_eq_true, false_imp_iff, true_and]; rfl
  · simp only [true_imp_iff, Bool.true_and]; rfl
theorem q_vOr_s {b c : Bool} {S : Prop} : vOr b (fun k => S ∧ k (.bool c)) L = ((b = false → S) ∧ L (.bool (b || c))) := by
  cases b
  · simp only [true_imp_iff, Bool.false_or]; rfl
  · simp only [Bool.true_eq_false, false_imp_iff, true_and]; rfl
theorem q_vIf_k {b : Bool} {x y : PyData} : vIf b (fun k => k x) (fun k => k y) L = L (if b then x else y) := by cases b <;> rfl
theorem q_tAnd_t {K : Bool → Prop} : tAnd true u K = u K := rfl
theorem q_tAnd_f {K : Bool → Prop} : tAnd false u K = K false := rfl
theorem q_tOr_t {K : Bool → Prop} : tOr true u K = K true := rfl
theorem q_tOr_f {K : Bool → Prop} : tOr false u K = u K := rfl
theorem q_vAnd_t : vAnd true v L = v L := rfl
theorem q_vAnd_f : vAnd false v L = L (.bool false) := rfl
theorem q_vOr_t : vOr true v L = L (.bool true) := rfl
theorem q_vOr_f : vOr false v L = v L := rfl
theorem q_vIf_t {v' : (PyData → Prop) → Prop} : vIf true v v' L = v L := rfl
theorem q_vIf_f {v' : (PyData → Prop) → Prop} : vIf false v v' L = v' L := rfl
theorem bIf_d {c : Prop} [Decidable c] {p q : Prop} (h1 : c → p) (h2 : ¬ c → q) : bIf (decide c) p q := by
  by_cases h : c
  · rw [decide_eq_true h]; exact h1 h
  · rw [decide_eq_false h]; exact h2 h
end
theorem pick_lit {xs : List PyData} (n : Nat) {d : PyData} (e : xs[n]? = some d) : pick xs (n : Int) P = P d := pick_eq (by
  unfold atI
  rw [ixN_in (by omega) (by have := (List.getElem?_eq_some_iff.mp e).1; omega)]
  exact e)
theorem at0 {a : PyData} {l : List PyData} : pick (a :: l) 0 P = P a := pick_lit 0 rfl
theorem at1 {a b : PyData} {l : List PyData} : pick (a :: b :: l) 1 P = P b := pick_lit 1 rfl
theorem at2 {a b c : PyData} {l : List PyData} : pick (a :: b :: c :: l) 2 P = P c := pick_lit 2 rfl
theorem at3 {a b c d : PyData} {l : List PyData} : pick (a :: b :: c :: d :: l) 3 P = P d := pick_lit 3 rfl
theorem at4 {a b c d e : PyData} {l : List PyData} : pick (a :: b :: c :: d :: e :: l) 4 P = P e := pick_lit 4 rfl
theorem at5 {a b c d e f : PyData} {l : List PyData} : pick (a :: b :: c :: d :: e :: f :: l) 5 P = P f := pick_lit 5 rfl
theorem at6 {a b c d e f g : PyData} {l : List PyData} : pick (a :: b :: c :: d :: e :: f :: g :: l) 6 P = P g := pick_lit 6 rfl
theorem atLast {xs : List PyData} {d : PyData} : pick (xs ++ [d]) (-1) P = P d := pick_eq (by
  unfold atI ixN
  rw [if_neg (by decide), if_pos (by simp; omega)]
  show (xs ++ [d])[((-1 : Int) + ((xs ++ [d]).length : Nat)).toNat]? = some d
  rw [show ((-1 : Int) + ((xs ++ [d]).length : Nat)).toNat = xs.length by simp; omega]
  simp)
/-- any item -/
theorem pick_mem {xs : List PyData} {k : Int} (h0 : 0 ≤ k) (h1 : k < xs.length) (h : ∀ d ∈ xs, P d) : pick xs k P := at_of h0 h1 h
theorem st0 {x a : PyData} {r : List PyData} {K : List PyData → Prop} : stQ (a :: r) (.int 0) x K = K (x :: r) := by
  show (match ixN (a :: r).length 0 with | some j => K ((a :: r).set j x) | none => False) = _
  rw [ixN_in (by decide) (by simp)]
  rfl
theorem st1 {x a b : PyData} {r : List PyData} {K : List PyData → Prop} : stQ (a :: b :: r) (.int 1) x K = K (a :: x :: r) := by
  show (match ixN (a :: b :: r).length 1 with | some j => K ((a :: b :: r).set j x) | none => False) = _
  rw [ixN_in (by decide) (by simp; omega)]
  rfl
theorem st2 {x a b c : PyData} {r : List PyData} {K : List PyData → Prop} : stQ (a :: b :: c :: r) (.int 2) x K = K (a :: b :: x :: r) := by
  show (match ixN (a :: b :: c :: r).length 2 with | some j => K ((a :: b :: c :: r).set j x) | none => False) = _
  rw [ixN_in (by decide) (by simp; omega)]
  rfl
theorem st3 {x a b c d : PyData} {r : List PyData} {K : List PyData → Prop} : stQ (a :: b :: c :: d :: r) (.int 3) x K = K (a :: b :: c :: x :: r) := by
  show (match ixN (a :: b :: c :: d :: r).length 3 with | some j => K ((a :: b :: c :: d :: r).set j x) | none => False) = _
  rw [ixN_in (by decide) (by simp; omega)]
  rfl
theorem st4 {x a b c d e : PyData} {r : List PyData} {K : List PyData → Prop} : stQ (a :: b :: c :: d :: e :: r) (.int 4) x K = K (a :: b :: c :: d :: x :: r) := by
  show (match ixN (a :: b :: c :: d :: e :: r).length 4 with | some j => K ((a :: b :: c :: d :: e :: r).set j x) | none => False) = _
  rw [ixN_in (by decide) (by simp; omega)]
  rfl
end
theorem isi_non_int : isiB .none "int" = false := rfl
theorem isi_non_bool : isiB .none "bool" = false := rfl
theorem isi_non_str : isiB .none "str" = false := rfl
theorem isi_non_list : isiB .none "list" = false := rfl
theorem isi_non_tuple : isiB .none "tuple" = false := rfl
theorem isi_non_dict : isiB .none "dict" = false := rfl
theorem isi_bl_int {t : Bool} : isiB (.bool t) "int" = true := rfl
theorem isi_bl_bool {t : Bool} : isiB (.bool t) "bool" = true := rfl
theorem isi_bl_str {t : Bool} : isiB (.bool t) "str" = false := rfl
theorem isi_bl_list {t : Bool} : isiB (.bool t) "list" = false := rfl
theorem isi_bl_tuple {t : Bool} : isiB (.bool t) "tuple" = false := rfl
theorem isi_bl_dict {t : Bool} : isiB (.bool t) "dict" = false := rfl
theorem isi_int_int {a : Int} : isiB (.int a) "int" = true := rfl
theorem isi_int_bool {a : Int} : isiB (.int a) "bool" = false := rfl
theorem isi_int_str {a : Int} : isiB (.int a) "str" = false := rfl
theorem isi_int_list {a : Int} : isiB (.int a) "list" = false := rfl
theorem isi_int_tuple {a : Int} : isiB (.int a) "tuple" = false := rfl
theorem isi_int_dict {a : Int} : isiB (.int a) "dict" = false := rfl
theorem isi_str_int {x : Str} : isiB (.str x) "int" = false := rfl
theorem isi_str_bool {x : Str} : isiB (.str x) "bool" = false := rfl
theorem isi_str_str {x : Str} : isiB (.str x) "str" = true := rfl
theorem isi_str_list {x : Str} : isiB (.str x) "list" = false := rfl
theorem isi_str_tuple {x : Str} : isiB (.str x) "tuple" = false := rfl
theorem isi_str_dict {x : Str} : isiB (.str x) "dict" = false := rfl
theorem isi_lst_int {xs : List PyData} : isiB (.list xs) "int" = false := rfl
theorem isi_lst_bool {xs : List PyData} : isiB (.list xs) "bool" = false := rfl
theorem isi_lst_str {xs : List PyData} : isiB (.list xs) "str" = false := rfl
theorem isi_lst_list {xs : List PyData} : isiB (.list xs) "list" = true := rfl
theorem isi_lst_tuple {xs : List PyData} : isiB (.list xs) "tuple" = false := rfl
theorem isi_lst_dict {xs : List PyData} : isiB (.list xs) "dict" = false := rfl
theorem isi_tup_int {xs : List PyData} : isiB (.tuple xs) "int" = false := rfl
theorem isi_tup_bool {xs : List PyData} : isiB (.tuple xs) "bool" = false := rfl
theorem isi_tup_str {xs : List PyData} : isiB (.tuple xs) "str" = false := rfl
theorem isi_tup_list {xs : List PyData} : isiB (.tuple xs) "list" = false := rfl
theorem isi_tup_tuple {xs : List PyData} : isiB (.tuple xs) "tuple" = true := rfl
theorem isi_tup_dict {xs : List PyData} : isiB (.tuple xs) "dict" = false := rfl
theorem isi_dct_int : isiB (.dict []) "int" = false := rfl
theorem isi_dct_bool : isiB (.dict []) "bool" = false := rfl
theorem isi_dct_str : isiB (.dict []) "str" = false := rfl
theorem isi_dct_list : isiB (.dict []) "list" = false := rfl
theorem isi_dct_tuple : isiB (.dict []) "tuple" = false := rfl
theorem isi_dct_dict : isiB (.dict []) "dict" = true := rfl
end DL

namespace DL
variable {T : List (PySem.Addr × PySem.Str)} {Z : Zx T}
open PySem PySem.Spec PyProof.Rows L2
open Evl (Ex)
section
variable {X : Cx} {a b e : Expr} {es : List Expr} {we wa wb : DE} {was : DA} {pos p p1 p2 p3 p0 : Pos} {K : PySem.W.Frag} {m : Nat}
/-- x == [] of a list, x == () of a tuple -/
def oEmp (n : Bool) (x y : PyData) (P : PyData → Prop) : Prop := match x, y with
  | .list xs, .list [] => P (.bool (xs.isEmpty != n))
  | .tuple xs, .tuple [] => P (.bool (xs.isEmpty != n))
  | _, _ => False
theorem q_empL {n : Bool} {xs : List PyData} {P : PyData → Prop} : oEmp n (.list xs) (.list []) P = P (.bool (xs.isEmpty != n)) := rfl
theorem q_empT {n : Bool} {xs : List PyData} {P : PyData → Prop} : oEmp n (.tuple xs) (.tuple []) P = P (.bool (xs.isEmpty != n)) := rfl
variable {x : Str}
def oIsB (n t : Bool) (x : PyData) (P : PyData → Prop) : Prop := match x with
  | .bool b => P (.bool (decide (b = t) != n))
  | _ => False
theorem q_isB {n t b : Bool} {P : PyData → Prop} : oIsB n t (.bool b) P = P (.bool (decide (b = t) != n)) := rfl
theorem lift_isBn {t : Bool} {σ : L2.St} {H : Hp} {Q : VK} (h : liftE K Z (dUn (oIsB true t) wa) σ H Q) : tOp rNotB (liftE K Z wa) (tC (.bl t)) σ H Q := by
  obtain ⟨g, F, env, P, k, w, q⟩ := h
  refine ⟨g, F, env, _, k, w, fun d env1 v F1 H1 p e1 k1 r1 => ?_⟩
  unfold oIsB at p
  split at p
  · cases r1.inv_bool
    refine ⟨_, _, rfl, rfl, q _ env1 _ F1 H1 ?_ e1 k1 (.bl _)⟩
    simpa using p
  · exact p.elim
theorem tnotB {t : Bool} {j pos'} (ha : PE X a (liftE X.K Z wa)) : PT X (.Compare a [.IsNot] [.Constant (.bool t) j pos'] pos) (liftT X.K Z (dTest (dUn (oIsB true t) wa))) := PT.of (pt_cmpR op_notBl ha pe_bl (nomark _)) fun _ _ _ h => lift_test (fun _ _ _ h => lift_isBn h) h
/-- a new thing, its object known -/
theorem PE.known {t : TE} (h : PE X e t) : PE X e (fun σ H Q => t σ H fun v H1 => ∃ a u, v = .ref a ∧ H1 a = some u ∧ Mut (some u) ∧ ∀ od, Q v (upd H1 a (.frz od u))) := ⟨fun pins s σ H Q I hw => by
  refine thn (h.run pins s σ H _ I hw) fun v s1 ⟨x, H1, I1, r, a, u, ea, eu, mu, q⟩ => ?_
  obtain ⟨od, I2⟩ := I1.lock eu mu
  exact ⟨x, _, I2, r, q od⟩⟩
theorem ddict0 : PE X (.Dict [] [] pos) (liftE X.K Z (dC (.dict []))) := PE.of (PE.known pe_dnewK) fun σ H Q ⟨g, F, env, P, k, w, q⟩ => fun p hp => ⟨p, .dK [], rfl, upd_same, True.intro, fun od => by
  rw [upd_upd]
  exact q _ env _ (upd F p (.frz od (.dK []))) _ w (Ex.new (fnone k.fh hp)) (k.alloc hp) (.dct upd_same .nil)⟩
end

section
variable {prog : Program} {w : World} {A : Around} {E : Value → Shared → Prop} {s : Shared}
theorem sliceApplied_rev {sl : Addr} {t : Tok} {n : Nat} {Q : Int × Int × Nat → Shared → Prop} (hs : s.heap.IsSliceOf sl .none .none (.int (-1) t))
    (h : Q ((n : Int) - 1, -1, n) s) : wpAny (model prog w) A (Builtin.Slice.sliceApplied (.ref sl) (pure (n : Int))) Q E s := by
  obtain ⟨os, hos, hcs, hds⟩ := id hs
  unfold Builtin.Slice.sliceApplied Builtin.Slice.sliceFields
  refine wpAny_bind (wpAny_bind (wpAny_field hos hds (x := .none) rfl (wpAny_bind (wpAny_field hos hds (x := .none) rfl (wpAny_bind (wpAny_field hos hds (x := .int (-1) t) rfl (wpAny_pure ?_)))))))
  refine wpAny_bind (HT.slicePart_ (.int (-1) t) ?_)
  show wpAny _ _ (if ((-1 : Int) == 0) = true then _ else _) _ _ s
  rw [if_neg (by decide)]
  refine wpAny_bind (HT.slicePart_ .none (wpAny_bind (HT.slicePart_ .none (wpAny_bind (wpAny_pure ?_)))))
  show wpAny _ _ (match Builtin.Slice.sliceAdjust none none (-1) (n : Int) with | (lo, hi) => pure (lo, (-1 : Int), Builtin.Slice.slicePlaces lo hi (-1))) _ _ s
  have e1 : Builtin.Slice.sliceAdjust none none (-1) (n : Int) = ((n : Int) - 1, -1) := by
    unfold Builtin.Slice.sliceAdjust
    simp
  rw [e1]
  have e2 : Builtin.Slice.slicePlaces ((n : Int) - 1) (-1) (-1) = n := by
    unfold Builtin.Slice.slicePlaces
    have h1 : ¬ ((-1 : Int) > 0) := by decide
    simp only [h1, if_false, show (- -1 : Int) = 1 from by decide, Int.ediv_one]
    split <;> omega
  show wpAny _ _ (pure ((n : Int) - 1, (-1 : Int), Builtin.Slice.slicePlaces ((n : Int) - 1) (-1) (-1))) _ _ s
  rw [e2]
  exact wpAny_pure h
theorem fm_congr {α β : Type} {f g : α → Option β} : ∀ {l : List α}, (∀ m ∈ l, f m = g m) → l.filterMap f = l.filterMap g
  | [], _ => rfl
  | a :: l, h => by
    rw [List.filterMap_cons, List.filterMap_cons, h a List.mem_cons_self, fm_congr fun m hm => h m (List.mem_cons_of_mem _ hm)]
theorem pick_rev (xs : Array Value) : ((List.range xs.size).filterMap fun (m : Nat) => xs[(((xs.size : Int) - 1) + (m : Int) * (-1)).toNat]?).toArray = xs.toList.reverse.toArray := by
  have e : (List.range xs.size).filterMap (fun (m : Nat) => xs[(((xs.size : Int) - 1) + (m : Int) * (-1)).toNat]?) = ((List.range xs.size).map fun k => xs.size - 1 - k).filterMap (xs[·]?) := by
    rw [List.filterMap_map]
    refine fm_congr fun m hm => ?_
    have hm := List.mem_range.mp hm
    have : (((xs.size : Int) - 1) + (m : Int) * (-1)).toNat = xs.size - 1 - m := by omega
    show xs[(((xs.size : Int) - 1) + (m : Int) * (-1)).toNat]? = xs[xs.size - 1 - m]?
    rw [this]
  rw [e, PySem.W.krv_range, List.filterMap_reverse, PySem.W.krv_all]
theorem getItem_tuple_rev {t sl : Addr} {tk : Tok} {items : Array Value} {Q : Value → Shared → Prop} (ht : IsTup s.heap t items) (hs : s.heap.IsSliceOf sl .none .none (.int (-1) tk))
    (h : Q (.ref s.heap.objs.size) { s with heap := s.heap.push { cls := .type "tuple", data := .seq items.toList.reverse.toArray } })
    (hsz : items.size ≤ sizeLine) : wpAny (model prog w) A (getItem (.ref t) (.ref sl)) Q E s := by
  have htake : sizeOk (.seq items.toList.reverse.toArray) := by
    show items.toList.reverse.toArray.size ≤ sizeLine
    rw [List.size_toArray, List.length_reverse, Array.length_toList]
    exact hsz
  obtain ⟨os, hos, hcs, hds⟩ := id hs
  have hTs : s.TypeIs (.ref sl) "slice" := ⟨os, hos, hcs⟩
  unfold getItem
  try with_reducible refine wpAny_holding ?_
  first | refine wpAny_bind (wpAny_pure ?_) | skip
  refine wpAny_bind (wpAny_sequenceKey ht.typeIs (by decide) ?_)
  refine wpAny_bind (wpAny_callSpecial?_slot (name := Str.ofString "__getitem__") ht.typeIs PyProof.Rows.slot_tuple_getitem
    (wpAny_call_entry PyProof.Rows.slot_tuple_getitem ht.typeIs entry_tuple_getitem ?_ (args_tuple_getitem _ _)))
  show wpAny _ _ (Builtin.Tuple.tupleItemsOf (.ref t) >>= _) _ _ s
  refine wpAny_bind (tupleItemsOf_ ht ?_)
  refine wpAny_bind (wpAny_typeOf hTs ?_)
  rw [if_pos (by decide)]
  refine wpAny_bind (sliceApplied_rev hs ?_)
  have hno : ¬ ((((items.size : Int) - 1) == 0 && (-1 : Int) == 1 && items.size == items.size) = true) := by
    intro q
    rw [Bool.and_eq_true, Bool.and_eq_true] at q
    exact absurd q.1.2 (by decide)
  show wpAny _ _ (if (((items.size : Int) - 1) == 0 && (-1 : Int) == 1 && items.size == items.size) = true then _ else _) _ _ s
  rw [if_neg hno, pick_rev]
  first
    | exact wpAny_bind (m := Builtin.Tuple.tupleExact _) (wpAny_newObj_type (wpAny_pure ⟨_, rfl, wpAny_pure h⟩) htake)
    | exact wpAny_bind (m := Builtin.Tuple.tupleExact _) (wpAny_newObj_type (wpAny_bind (wpAny_pure (wpAny_pure ⟨_, rfl, wpAny_pure h⟩))) htake)
    | exact wpAny_bind (wpAny_bind (m := Builtin.Tuple.tupleExact _) (wpAny_newObj_type (wpAny_pure (wpAny_pure ⟨_, rfl, wpAny_pure h⟩)) htake))
    | exact wpAny_bind (wpAny_bind (m := Builtin.Tuple.tupleExact _) (wpAny_newObj_type (wpAny_pure ⟨_, rfl, wpAny_pure h⟩) htake))
end
end DL

namespace DL
variable {T : List (PySem.Addr × PySem.Str)} {Z : Zx T}
open PySem PySem.Spec PyProof.Rows L2
open Evl (Ex)
section
variable {X : Cx} {a b e : Expr} {es : List Expr} {we wa wb : DE} {was : DA} {pos p p1 p2 p3 p0 : Pos} {K : PySem.W.Frag} {m : Nat}
def tRevA (K : PySem.W.Frag) (te : TE) : TE := fun σ H Q => te σ H fun x H1 => (∃ a xs, x = .ref a ∧ SqL K H1 a xs ∧ ∀ p, H1 p = none → Q (.ref p) (upd H1 p (.lst xs.reverse))) ∨ ∃ a xs, x = .ref a ∧ SqT K H1 a xs ∧ NewZ H1 xs.reverse Q
theorem pe_revA {te : TE} {k : Nat} (he : PE X e te) : PE X (.Subscript e (.Slice none none (some (.UnaryOp .USub (.Constant (.int 1) k p1) p2)) p3) pos) (tRevA X.K te) := by
  refine ⟨fun pins s σ H Q I h => ?_⟩
  refine Subscript_ (thn (he.run pins s σ H _ I h) fun v s1 ⟨x, H1, I1, r1, q1⟩ => ?_)
  have hst : PO X (some (.UnaryOp .USub (.Constant (.int 1) k p1) p2)) (tPart (tUn (rU fun i => .int (-i)) (tC (.int 1)))) := po_some (pe_un un_neg pe_int)
  rcases q1 with ⟨a, xs, ex, hx, q⟩ | ⟨a, xs, ex, hx, q⟩
  · subst ex
    cases r1
    refine wpAny_Slice (thn (po_none.run pins s1 σ H1 (fun o H2 => o = none ∧ H2 = H1) I1 ⟨rfl, rfl⟩) fun vl s2 ⟨l, H2, I2, pl, el, e2⟩ => ?_)
    subst el e2
    refine thn (po_none.run pins s2 σ H2 (fun o H3 => o = none ∧ H3 = H2) I2 ⟨rfl, rfl⟩) fun vu s3 ⟨u, H3, I3, pu, eu, e3⟩ => ?_
    subst eu e3
    refine thn (hst.run pins s3 σ H3 (fun o H4 => o = some (-1) ∧ H4 = H3) I3 ⟨1, rfl, -1, rfl, rfl, rfl⟩) fun vs s4 ⟨o, H4, I4, ps, eo, e4⟩ => ?_
    subst eo e4
    have I5 : Inv X pins σ H4 { s4 with heap := s4.heap.push { cls := .type "slice", data := .fields #[vl, vu, vs] } } := I4.kept (t' := s4.toks) fun b ob q => Heap.get?_push_of_some _ q
    obtain ⟨its, r, ht, hz⟩ := I5.list hx
    have hlen := r.length
    show wpAny (model X.prog X.w) X.A (subscriptTail e (.Slice none none (some (.UnaryOp .USub (.Constant (.int 1) k p1) p2)) p3) (.ref a) (.ref s4.heap.objs.size)) (EP X pins σ Q) X.xe { s4 with heap := s4.heap.push { cls := .type "slice", data := .fields #[vl, vu, vs] } }
    refine tail_any (ops := [.ref a, .ref s4.heap.objs.size]) ht.isList.typeIs (PySem.slot_list_getitem.lookup) ?_ (by with_unfolding_all rfl)
    refine wpAny_getItem_list_slice ht.isList (Heap.IsSliceOf.new _ vl vu vs) pl pu ps (by decide) ?_ (by rw [List.size_toArray]; omega)
    rw [PySem.W.krv_pick]
    refine ⟨.ref _, _, I5.laid (t' := s4.toks) (o := .lst xs.reverse) (fun b ob q => Heap.get?_push_of_some _ q) (Nat.le_refl _) ?_, rfl, q _ (I5.hok.fresh (Nat.le_refl _))⟩
    exact ⟨by rw [List.length_reverse]; exact hz, _, 0, r.reverse, Heap.get?_push_size _ rfl⟩
  · subst ex
    cases r1
    refine wpAny_Slice (thn (po_none.run pins s1 σ H1 (fun o H2 => o = none ∧ H2 = H1) I1 ⟨rfl, rfl⟩) fun vl s2 ⟨l, H2, I2, pl, el, e2⟩ => ?_)
    subst el e2
    refine thn (po_none.run pins s2 σ H2 (fun o H3 => o = none ∧ H3 = H2) I2 ⟨rfl, rfl⟩) fun vu s3 ⟨u, H3, I3, pu, eu, e3⟩ => ?_
    subst eu e3
    refine thn (hst.run pins s3 σ H3 (fun o H4 => o = some (-1) ∧ H4 = H3) I3 ⟨1, rfl, -1, rfl, rfl, rfl⟩) fun vs s4 ⟨o, H4, I4, ps, eo, e4⟩ => ?_
    subst eo e4
    have I5 : Inv X pins σ H4 { s4 with heap := s4.heap.push { cls := .type "slice", data := .fields #[vl, vu, vs] } } := I4.kept (t' := s4.toks) fun b ob q => Heap.get?_push_of_some _ q
    obtain ⟨its, r, ht, hz⟩ := I5.tuple hx
    have hlen := r.length
    show wpAny (model X.prog X.w) X.A (subscriptTail e (.Slice none none (some (.UnaryOp .USub (.Constant (.int 1) k p1) p2)) p3) (.ref a) (.ref s4.heap.objs.size)) (EP X pins σ Q) X.xe { s4 with heap := s4.heap.push { cls := .type "slice", data := .fields #[vl, vu, vs] } }
    refine tail_any (ops := [.ref a, .ref s4.heap.objs.size]) ht.typeIs (PyProof.Rows.slot_tuple_getitem.lookup) ?_ (by with_unfolding_all rfl)
    cases pl
    cases pu
    cases ps with
    | int _ t =>
    refine getItem_tuple_rev (items := its.toArray) ht (Heap.IsSliceOf.new _ .none .none (.int (-1) t)) ?_ (by rw [List.size_toArray]; omega)
    exact endZ (tk := s4.toks) I5 r.reverse rfl (by rw [List.length_reverse]; exact hz) q
def oRevA (x : PyData) (P : PyData → Prop) : Prop := match x with
  | .list ds => P (.list ds.reverse)
  | .tuple ds => P (.tuple ds.reverse)
  | _ => False
theorem q_revL {ds : List PyData} {P : PyData → Prop} : oRevA (.list ds) P = P (.list ds.reverse) := rfl
theorem q_revT {ds : List PyData} {P : PyData → Prop} : oRevA (.tuple ds) P = P (.tuple ds.reverse) := rfl
theorem drevA {k : Nat} (he : PE X e (liftE X.K Z we)) : PE X (.Subscript e (.Slice none none (some (.UnaryOp .USub (.Constant (.int 1) k p1) p2)) p3) pos) (liftE X.K Z (dUn oRevA we)) :=
  PE.of (pe_revA he) fun σ H Q ⟨g, F, env, P, kk, w, q⟩ => ⟨g, F, env, _, kk, w, fun d env1 v F1 H1 p e1 k1 r1 => by
    unfold oRevA at p
    split at p
    · obtain ⟨a, us, rfl, h1, h2⟩ := r1.inv_lst
      refine .inl ⟨a, us, rfl, (h1.mono k1.fh).sq, fun x hx => ?_⟩
      obtain ⟨e4, k4, r4⟩ := k1.newLst hx h2.rev
      exact q _ env1 _ _ _ p (e1.trans e4) k4 r4
    · obtain ⟨a, us, rfl, h1, h2⟩ := r1.inv_tup
      refine .inr ⟨a, us, rfl, Evl.ex_t k1.fh h1, fun x o hx ho => ?_⟩
      obtain ⟨e4, k4, r4⟩ := k1.newTup hx ho h2.rev
      exact q _ env1 _ _ _ p (e1.trans e4) k4 r4
    · exact p.elim⟩
end
end DL

namespace DL
variable {T : List (PySem.Addr × PySem.Str)} {Z : Zx T}
open PySem PySem.Spec PyProof.Rows L2
open Evl (Ex)
section
variable {X : Cx} {a b e : Expr} {es : List Expr} {we wa wb : DE} {was : DA} {pos p p1 p2 p3 p0 : Pos} {K : PySem.W.Frag} {m : Nat}
/-- [e] * n, a new cell -/
def repQ (x y : PyData) (K : List PyData → Prop) : Prop := match y with
  | .int k => (-1000000 ≤ k ∧ k ≤ 100000) ∧ K (List.replicate k.toNat x)
  | _ => False
theorem q_rep {x : PyData} {k : Int} {K : List PyData → Prop} : repQ x (.int k) K = ((-1000000 ≤ k ∧ k ≤ 100000) ∧ K (List.replicate k.toNat x)) := rfl
theorem DRs.rep {F : Hp} {v : V} {d : PyData} (r : DR K F v d) : ∀ n : Nat, DRs K F (List.replicate n v) (List.replicate n d)
  | 0 => .nil
  | n + 1 => by rw [List.replicate_succ, List.replicate_succ]; exact .cons r (DRs.rep r n)
end
theorem Dn.imp {P : Program} {w : World} {K : PySem.W.Frag} {mg : Str → Option Value} {base : Heap} {x : Str} {k : Nat} {ps : List Str} {S S' : DSp} (D : Dn P w K mg base T x k ps S) (h : ∀ as Q, S' as Q → S as Q) : Dn P w K mg base T x k ps S' :=
  ⟨let ⟨fd, F, b⟩ := D.ex; ⟨fd, F.imp h, b⟩, D.glo, D.kp⟩
theorem FnG.never {P : Program} {w : World} {K : PySem.W.Frag} {mg : Str → Option Value} {base : Heap} {k : Nat} {f : Addr} {fd : FuncData} {ps : List Str} {S : DSp} (h : ∀ as Q, ¬ S as Q) : FnG P w K mg base T k f fd ps S :=
  ⟨fun as Q q => absurd q (h as Q), fun _ _ _ _ _ _ _ _ _ _ _ _ _ ⟨_, as, _, _, q, _⟩ => absurd q (h as _)⟩
end DL

namespace DL
variable {T : List (PySem.Addr × PySem.Str)} {Z : Zx T}
open PySem PySem.Spec PyProof.Rows L2
open Evl (Ex)
section
variable {X : Cx} {a b e : Expr} {wa wb : DE} {pos : Pos} {K : PySem.W.Frag}
abbrev oFd : D2 := oIc (fun _ j => j ≠ 0 ∧ Sz j) fun i j => .int (i.fdiv j)
theorem q_fd {i j : Int} {P : PyData → Prop} : oFd (.int i) (.int j) P = ((j ≠ 0 ∧ Sz j) ∧ P (.int (i.fdiv j))) := rfl
end
end DL

namespace DL
variable {T : List (PySem.Addr × PySem.Str)} {Z : Zx T}
open PySem PySem.Spec PyProof.Rows L2
open Evl (Ex)
section
variable {X : Cx} {a b e : Expr} {es : List Expr} {pos p : Pos} {was : DA} {wa wb we : DE} {K : PySem.W.Frag}
def max3 (i j k : Int) : Int := max (max i j) k
def min3 (i j k : Int) : Int := min (min i j) k
def nMax3 (xs : List PyData) (P : PyData → Prop) : Prop := match xs with
  | [.int i, .int j, .int k] => P (.int (max3 i j k))
  | _ => False
def nMin3 (xs : List PyData) (P : PyData → Prop) : Prop := match xs with
  | [.int i, .int j, .int k] => P (.int (min3 i j k))
  | _ => False
theorem q_max3 {i j k : Int} {P : PyData → Prop} : nMax3 [.int i, .int j, .int k] P = P (.int (max3 i j k)) := rfl
theorem q_min3 {i j k : Int} {P : PyData → Prop} : nMin3 [.int i, .int j, .int k] P = P (.int (min3 i j k)) := rfl
/-- the figures of a whole number -/
@[irreducible] def shInt (i : Int) : Str := toString i
def nStr (xs : List PyData) (P : PyData → Prop) : Prop := match xs with
  | [.int i] => i.natAbs < 10 ^ 250 ∧ P (.str (shInt i))
  | _ => False
theorem q_str {i : Int} {P : PyData → Prop} : nStr [.int i] P = (i.natAbs < 10 ^ 250 ∧ P (.str (shInt i))) := rfl
def catQ (xs : List PyData) (y : PyData) (K : List PyData → Prop) : Prop := match y with
  | .list ys => xs.length + ys.length ≤ 100000 ∧ K (xs ++ ys)
  | _ => False
theorem q_cat {xs ys : List PyData} {K : List PyData → Prop} : catQ xs (.list ys) K = (xs.length + ys.length ≤ 100000 ∧ K (xs ++ ys)) := rfl
/-- a list, as a row of items -/
def catN (x y : PyData) (K : List PyData → Prop) : Prop := match x with
  | .list xs => catQ xs y K
  | _ => False
theorem q_catN {xs ys : List PyData} {K : List PyData → Prop} : catN (.list xs) (.list ys) K = (xs.length + ys.length ≤ 100000 ∧ K (xs ++ ys)) := rfl
def scalQ (d : PyData) (p : Prop) : Prop := match d with
  | .none => p
  | .bool _ => p
  | .int _ => p
  | .str _ => p
  | _ => False
theorem q_scalN {p : Prop} : scalQ .none p = p := rfl
theorem q_scalB {b : Bool} {p : Prop} : scalQ (.bool b) p = p := rfl
theorem q_scalI {i : Int} {p : Prop} : scalQ (.int i) p = p := rfl
theorem q_scalS {x : Str} {p : Prop} : scalQ (.str x) p = p := rfl
def frz1 : SD → SD
  | .cel _ xs => .dat (.list xs)
  | .dic _ => .un
  | s => s
def frz (env : List SD) : List SD := env.map frz1
/-- 0, 1, .. beside the items -/
def enumD : Nat → List PyData → List PyData
  | _, [] => []
  | n, x :: xs => .tuple [.int (n : Nat), x] :: enumD (n + 1) xs
def enumQ (ds : List PyData) (K : List PyData → Prop) : Prop := match ds with
  | [.list xs] => At (enumD 0 xs) K
  | [.tuple xs] => At (enumD 0 xs) K
  | _ => False
theorem q_enumL {xs : List PyData} {K : List PyData → Prop} : enumQ [.list xs] K = K (enumD 0 xs) := At.eq
theorem q_enumT {xs : List PyData} {K : List PyData → Prop} : enumQ [.tuple xs] K = K (enumD 0 xs) := At.eq
end
end DL

namespace DL
variable {T : List (PySem.Addr × PySem.Str)} {Z : Zx T}
open PySem PySem.Spec PyProof.Rows L2
open Evl (Ex)
section
variable {X : Cx} {a b e : Expr} {es : List Expr} {pos p : Pos} {was : DA} {wa wb we : DE} {K : PySem.W.Frag}
@[irreducible] def memD (x : PyData) (ds : List PyData) : Bool := ds.any fun z => PyData.eqv z x
/-- a text within a text -/
@[irreducible] def inStr (a z : Str) : Bool := !(Builtin.Str.occurrences z a 0 z.length 1).isEmpty
/-- may be looked for -/
def shp (x : PyData) (ds : List PyData) : Prop := SeqAt.shaped x = true ∧ SeqAt.shaped (.list ds) = true
def oMem (n : Bool) (x y : PyData) (P : PyData → Prop) : Prop := match y with
  | .list ds => shp x ds ∧ P (.bool (memD x ds != n))
  | .tuple ds => shp x ds ∧ P (.bool (memD x ds != n))
  | .str z => (match x with
    | .str a => P (.bool (inStr a z != n))
    | _ => False)
  | _ => False
def oIn (x y : PyData) (P : PyData → Prop) : Prop := oMem false x y P
def oNin (x y : PyData) (P : PyData → Prop) : Prop := oMem true x y P
theorem q_inL {x : PyData} {ds : List PyData} {P : PyData → Prop} : oIn x (.list ds) P = (shp x ds ∧ P (.bool (memD x ds != false))) := rfl
theorem q_inT {x : PyData} {ds : List PyData} {P : PyData → Prop} : oIn x (.tuple ds) P = (shp x ds ∧ P (.bool (memD x ds != false))) := rfl
theorem q_inS {a z : Str} {P : PyData → Prop} : oIn (.str a) (.str z) P = P (.bool (inStr a z != false)) := rfl
theorem q_ninL {x : PyData} {ds : List PyData} {P : PyData → Prop} : oNin x (.list ds) P = (shp x ds ∧ P (.bool (memD x ds != true))) := rfl
theorem q_ninT {x : PyData} {ds : List PyData} {P : PyData → Prop} : oNin x (.tuple ds) P = (shp x ds ∧ P (.bool (memD x ds != true))) := rfl
theorem q_ninS {a z : Str} {P : PyData → Prop} : oNin (.str a) (.str z) P = P (.bool (inStr a z != true)) := rfl
end
end DL

namespace DL
variable {T : List (PySem.Addr × PySem.Str)} {Z : Zx T}
open PySem PySem.Spec PyProof.Rows L2
structure Sm (b k : Nat) (d : PyData) : Prop where
  rp : rp d = true
  bulk : d.bulk ≤ b
  depth : d.depth ≤ k
theorem Sm.mono {b k b' k' : Nat} {d : PyData} (h : Sm b k d) (hb : b ≤ b' := by omega) (hk : k ≤ k' := by omega) : Sm b' k' d := ⟨h.rp, Nat.le_trans h.bulk hb, Nat.le_trans h.depth hk⟩
theorem sm_all {b k : Nat} : ∀ {xs : List PyData}, (∀ x ∈ xs, Sm b k x) → rpAll xs = true ∧ PyData.bulkAll xs ≤ xs.length * (b + 1) ∧ PyData.depthAll xs ≤ k
  | [], _ => ⟨by simp [rpAll], by simp [PyData.bulkAll], by simp [PyData.depthAll]⟩
  | x :: xs, h => by
    obtain ⟨h1, h2, h3⟩ := sm_all (xs := xs) fun y hy => h y (List.mem_cons_of_mem _ hy)
    have hx := h x List.mem_cons_self
    refine ⟨?_, ?_, ?_⟩
    · rw [rpAll, hx.rp, h1]; rfl
    · rw [PyData.bulkAll, List.length_cons, Nat.add_mul]
      have := hx.bulk
      omega
    · rw [PyData.depthAll]
      have := hx.depth
      omega
theorem Sm.tup {n b k : Nat} {xs : List PyData} (hl : xs.length ≤ n) (h : ∀ x ∈ xs, Sm b k x) : Sm (n * (b + 1)) (k + 1) (.tuple xs) := by
  obtain ⟨h1, h2, h3⟩ := sm_all h
  refine ⟨by simpa only [DL.rp] using h1, ?_, ?_⟩
  · rw [PyData.bulk]
    exact Nat.le_trans h2 (Nat.mul_le_mul_right _ hl)
  · rw [PyData.depth]
    omega
theorem Sm.lst {n b k : Nat} {xs : List PyData} (hl : xs.length ≤ n) (h : ∀ x ∈ xs, Sm b k x) : Sm (n * (b + 1)) (k + 1) (.list xs) := by
  obtain ⟨h1, h2, h3⟩ := sm_all h
  refine ⟨by simpa only [DL.rp] using h1, ?_, ?_⟩
  · rw [PyData.bulk]
    exact Nat.le_trans h2 (Nat.mul_le_mul_right _ hl)
  · rw [PyData.depth]
    omega
theorem Sm.int {i : Int} (h : i.natAbs < 10 ^ 250) (b k : Nat) : Sm b k (.int i) := ⟨by simpa only [DL.rp, decide_eq_true_eq] using h, by rw [PyData.bulk]; omega, by rw [PyData.depth]; omega⟩
theorem Sm.bool {t : Bool} (b k : Nat) : Sm b k (.bool t) := ⟨rfl, by rw [PyData.bulk]; omega, by rw [PyData.depth]; omega⟩
theorem Sm.none (b k : Nat) : Sm b k .none := ⟨rfl, by rw [PyData.bulk]; omega, by rw [PyData.depth]; omega⟩
end DL

namespace DL
variable {T : List (PySem.Addr × PySem.Str)} {Z : Zx T}
open PySem PySem.Spec PyProof.Rows L2
open Evl (Ex)

section
variable {K : PySem.W.Frag} {F H : Hp} {b : Addr} {us us' : List V}
end
section
variable {X : Cx} {e b b2 : Expr} {we wb wb2 : DE} {wx : DX} {m : Nat} {pos : Pos}
end
section
variable {K : PySem.W.Frag} {F H : Hp} {vs : List V} {as : List SD}
def atB : PyData → Bool
  | .none => true
  | .bool _ => true
  | .int _ => true
  | .str _ => true
  | _ => false
def atoms : List SD → Bool
  | [] => true
  | .un :: r => atoms r
  | .dat d :: r => atB d && atoms r
  | .cel _ xs :: r => xs.all atB && atoms r
  | .dic _ :: _ => false
theorem atoms_get : ∀ {env : List SD} {j : Nat} {s : SD}, atoms env = true → env[j]? = some s → match s with | .un => True | .dat d => atB d = true | .cel _ xs => xs.all atB = true | .dic _ => False
  | [], j, s, _, e => by simp at e
  | .un :: r, 0, s, h, e => by simp at e; subst e; trivial
  | .dat d :: r, 0, s, h, e => by simp only [atoms, Bool.and_eq_true] at h; simp at e; subst e; exact h.1
  | .cel p xs :: r, 0, s, h, e => by simp only [atoms, Bool.and_eq_true] at h; simp at e; subst e; exact h.1
  | .dic _ :: r, _, s, h, e => by simp [atoms] at h
  | .un :: r, j + 1, s, h, e => atoms_get (env := r) (j := j) h (by simpa using e)
  | .dat d :: r, j + 1, s, h, e => by simp only [atoms, Bool.and_eq_true] at h; exact atoms_get (env := r) (j := j) h.2 (by simpa using e)
  | .cel p xs :: r, j + 1, s, h, e => by simp only [atoms, Bool.and_eq_true] at h; exact atoms_get (env := r) (j := j) h.2 (by simpa using e)
theorem at_any {F' : Hp} {v : V} {d : PyData} (h : atB d = true) (r : DR K F v d) : DR K F' v d := by
  cases r with
  | non => exact .non
  | bl b => exact .bl b
  | int i => exact .int i
  | str x => exact .str x
  | lst _ _ => cases h
  | tup _ _ => cases h
  | dct _ _ => cases h
  | row _ _ => cases h
  | exc _ _ => cases h
theorem ats_any {F' : Hp} : ∀ {vs : List V} {ds : List PyData}, ds.all atB = true → DRs K F vs ds → DRs K F' vs ds
  | _, _, _, .nil => .nil
  | _, _, h, .cons x y => by
    simp only [List.all_cons, Bool.and_eq_true] at h
    exact .cons (at_any h.1 x) (ats_any h.2 y)
abbrev noH : Hp := fun _ => none
theorem ArgsOk.bare (ha : ArgsOk T K F H vs as) (h : atoms as = true) : ArgsOk T K noH H vs as where
  len := ha.len
  fh := fun a o e => by cases e
  dat := fun i d e => by
    obtain ⟨v, h1, h2⟩ := ha.dat i d e
    exact ⟨v, h1, at_any (atoms_get h e) h2⟩
  cel := fun i p xs e => by
    obtain ⟨rfl, a, us, h1, h2, h3, h4⟩ := ha.cel i p xs e
    exact ⟨rfl, a, us, h1, rfl, h3, ats_any (atoms_get h e) h4⟩
  sep := ha.sep
  nod := ha.nod
  tab := ha.tab
  nt := fun _ _ e => by cases e
/-- both -/
def joinH (F F' : Hp) : Hp := fun a => match F' a with
  | some o => some o
  | none => F a
theorem PostOk.back {F' H' : Hp} {as' : List SD} {v : V} {r : SD} (ha : ArgsOk T K F H vs as) (p : PostOk T K noH H vs as F' H' as' v r) : PostOk T K F H vs as (joinH F F') H' as' v r := by
  have e1 : Ex F (joinH F F') := fun a o e => by
    unfold joinH
    split
    · rename_i u z
      rcases p.newF a u z with y | y
      · cases y
      · have := ha.fh a o e
        rw [y] at this
        cases this
    · exact e
  have e2 : Ex F' (joinH F F') := fun a o e => by
    unfold joinH
    rw [e]
  have nn : ∀ {a : Addr}, F a = none → F' a = none → joinH F F' a = none := fun {a} h1 h2 => by
    unfold joinH
    rw [h2]
    exact h1
  have fr : ∀ (a : Addr) (o : HO), F a = some o → F' a = none → H' a = some o := fun a o e n => (p.frame.stay a o (ha.fh a o e) fun i q xs z y => by
    obtain ⟨_, b, us, y1, y2, _⟩ := ha.cel i q xs z
    rw [y] at y1
    cases y1
    rw [e] at y2
    cases y2).same fun ps z => ha.nt a ps (by rw [e, z])
  refine ⟨e1, fun a ps e => ?_, fun a o e => ?_, fun a o e => ?_, p.frame, fun i q xs a z y => ?_, ?_⟩
  · unfold joinH at e
    split at e
    · rename_i u z
      cases e
      exact p.nt a _ z
    · exact ha.nt a ps e
  · unfold joinH at e
    split at e
    · rename_i u z
      cases e
      exact p.fh a _ z
    · exact fr a o e ‹_›
  · unfold joinH at e
    split at e
    · rename_i u z
      exact .inr ((p.newF a u z).elim (fun w => by cases w) id)
    · exact .inl e
  · obtain ⟨ys, us, c1, c2, c3, c4⟩ := p.cel i q xs a z y
    obtain ⟨_, b, us0, y1, y2, _⟩ := ha.cel i q xs z
    rw [y] at y1
    cases y1
    exact ⟨ys, us, c1, nn y2 c2, c3, c4.mono e2⟩
  · have := p.res
    cases r with
    | un => exact this
    | dat d => exact DR.mono e2 this
    | dic _ => exact this.elim
    | cel b xs =>
      obtain ⟨a, us, h1, h2, h3, h4, h5⟩ := this
      refine ⟨a, us, h1, nn ?_ h2, h3, h4.mono e2, h5⟩
      cases z : F a with
      | none => rfl
      | some o =>
        have := ha.fh a o z
        rw [h5] at this
        cases this
end
section
variable {P : Program} {w : World} {K : PySem.W.Frag} {mg : Str → Option Value} {base : Heap}
end
end DL

namespace DL
variable {T : List (PySem.Addr × PySem.Str)} {Z : Zx T}
open PySem PySem.Spec PyProof.Rows L2
open Evl (Ex)
section
variable {X : Cx} {e : Expr} {wx : DX} {m : Nat} {pos : Pos}
end
end DL

namespace DL
variable {T : List (PySem.Addr × PySem.Str)} {Z : Zx T}
open PySem PySem.Spec PyProof.Rows L2
open Evl (Ex)
def FxSays (fx : List Fx) (K : PySem.W.Frag) : Prop := fx.all (fun f => f.ok K) = true
def fxG (n : Nat) (fx : List Fx) (g : Addr → Option Obj) : Bool := match fx with
  | [] => true
  | f :: r => (f :: r).all fun f => f.ok (He.frG g (He.asG g n))
theorem fxG_all {n : Nat} {fx : List Fx} {g : Addr → Option Obj} (h : fxG n fx g = true) : FxSays fx (He.frG g (He.asG g n)) := by
  cases fx with
  | nil => rfl
  | cons f r => exact h
def hookX (n : Nat) (fa : List He.Fa) (fn : List He.FnD) (fx : List Fx) : PySem.W.Hook where
  α := He.Al × Bool × Bool
  obs := fun s => (He.obsG n fa fn s.heap.get?, sysB s.heap.get?, fxG n fx s.heap.get?)
  val := fun _ => (He.valE fn, true, true)
  says := fun _ h => (∃ K : PySem.W.Frag, K.In h ∧ He.SaysE fa fn K ∧ FxSays fx K) ∧ SysD h
  of := fun w s e => ⟨⟨He.frG s.heap.get? (He.asG s.heap.get? n), He.frG_in, congrArg Prod.fst e, fxG_all (congrArg (fun z => z.2.2) e)⟩, sysB_of (congrArg (fun z => z.2.1) e)⟩
  keeps := fun w h h' ⟨⟨K, hK, c⟩, o, es, ep, e, d⟩ k => ⟨⟨K, PySem.W.Frag.In.keeps hK k, c⟩, o, es, ep, k _ _ e, d⟩
theorem obsX_eq {n : Nat} {fa : List He.Fa} {fn : List He.FnD} {fx : List Fx} {g : Addr → Option Obj} {s : Shared} (h : ∀ a, g a = s.heap.get? a) : (He.obsG n fa fn g, sysB g, fxG n fx g) = (hookX n fa fn fx).obs s := by
  have e : g = s.heap.get? := funext h
  rw [e] <;> rfl
structure TopX (fa : List He.Fa) (fn : List He.FnD) (fx : List Fx) (K : PySem.W.Frag) (mg : Str → Option Value) : Prop extends Top fa fn K mg where
  more : FxSays fx K
theorem TopX.fact {fa : List He.Fa} {fn : List He.FnD} {fx : List Fx} {K : PySem.W.Frag} {mg : Str → Option Value} (T : TopX fa fn fx K mg) (i : Nat) {f : Fx} (h : fx[i]? = some f := by rfl) : f.ok K = true := List.all_eq_true.mp T.more f (List.mem_of_getElem? h)
/-- a tuple of whole numbers at the module's top -/
def CtT (K : PySem.W.Frag) (mg : Str → Option Value) (x : Str) (ns : List Int) : Prop := ∃ a, mg x = some (.ref a) ∧ tupB K a ns = true
theorem TopX.tup {fa : List He.Fa} {fn : List He.FnD} {fx : List Fx} {K : PySem.W.Frag} {mg : Str → Option Value} (T : TopX fa fn fx K mg) (x : Str) (ns : List Int) (i : Nat) (h : fx[i]? = some (.tup x ns) := by rfl) : CtT K mg x ns := by
  obtain ⟨hp, h1, h2⟩ := T.ns
  obtain ⟨c1, c2⟩ := He.ba (show (He.eqO (PySem.W.nsIn K mainGlobals x) (some (some (.ref (He.ga K x)))) && tupB K (He.ga K x) ns) = true from T.fact i h)
  exact ⟨_, PySem.W.mg_of h1 h2 (He.eqO_ok c1), c2⟩
/-- a class of refusals of the module -/
def CtE (K : PySem.W.Frag) (mg : Str → Option Value) (x : Str) : Prop := mg x = some (.ref (He.ga K x)) ∧ XcF K x
theorem TopX.exc {fa : List He.Fa} {fn : List He.FnD} {fx : List Fx} {K : PySem.W.Frag} {mg : Str → Option Value} (T : TopX fa fn fx K mg) (c : Str) (i : Nat) (h : fx[i]? = some (.exc c) := by rfl) : CtE K mg c := by
  obtain ⟨hp, h1, h2⟩ := T.ns
  obtain ⟨c1, c2⟩ := He.ba (show (He.eqO (PySem.W.nsIn K mainGlobals c) (some (some (.ref (He.ga K c)))) && xcB K c) = true from T.fact i h)
  exact ⟨PySem.W.mg_of h1 h2 (He.eqO_ok c1), xcB_ok c2⟩
/-- a text at the module's top -/
theorem TopX.txt {fa : List He.Fa} {fn : List He.FnD} {fx : List Fx} {K : PySem.W.Frag} {mg : Str → Option Value} (T : TopX fa fn fx K mg) (x z : Str) (i : Nat) (h : fx[i]? = some (.txt x z) := by rfl) : ∃ t, mg x = some (.str z t) := by
  obtain ⟨hp, h1, h2⟩ := T.ns
  exact He.str_ok h1 h2 (T.fact i h)
section
variable {X : Cx} {a b e : Expr} {we wa wb : DE} {pos : Pos}
end
end DL

namespace DL
variable {T : List (PySem.Addr × PySem.Str)} {Z : Zx T}
open PySem PySem.Spec PyProof.Rows L2
open Evl (Ex)
section
variable {X : Cx} {a b e : Expr} {we wa wb : DE} {pos : Pos}
end
end DL

namespace DL
variable {T : List (PySem.Addr × PySem.Str)} {Z : Zx T}
open PySem PySem.Spec PyProof.Rows L2
open Evl (Ex)
section
variable {P : Program} {w : World} {A : Around} {E : Value → Shared → Prop} {s : Shared}
end
end DL

namespace DL
variable {T : List (PySem.Addr × PySem.Str)} {Z : Zx T}
open PySem PySem.Spec PyProof.Rows L2
open Evl (Ex)
/-- the members once each, rising -/
def sortSetQ (d : PyData) (K : List PyData → Prop) : Prop := match d with
  | .list ds => match intsD ds with
    | some ns => ns.length < 63 ∧ ∀ ms : List Int, ms.Pairwise (· < ·) → (∀ k, k ∈ ms ↔ k ∈ ns) → K (ms.map .int)
    | none => False
  | _ => False
section
variable {X : Cx} {a : Expr} {wa : DE} {p p2 pos pos2 : Pos}
end
end DL

namespace DL
variable {T : List (PySem.Addr × PySem.Str)} {Z : Zx T}
open PySem PySem.Spec PyProof.Rows L2
open Evl (Ex)
/-- what is told of a refusal: its class and the names' data -/
abbrev RD := Str → List SD → Prop
def liftW (K : PySem.W.Frag) (Z : Zx T) (Ed : RD) : WX := fun cls d σ H => ∃ c : Str, cls = .ref (He.ga K c) ∧ d = none ∧ XcF K c ∧ ∃ (g : Gx Z) (F : Hp) (env : List SD), Ok K g F env σ H ∧ Ed c env
abbrev DSpX := List SD → (SD → List SD → Prop) → (Str → Prop) → Prop
abbrev XWish := Value → Option Addr → Hp → Prop
def spDX (T : List (Addr × Str)) (K : PySem.W.Frag) (S : DSpX) (vs : List V) (H : Hp) (Q : VK) (E : XWish) : Prop := ∃ (F : Hp) (as : List SD) (P : SD → List SD → Prop) (Ec : Str → Prop), ArgsOk T K F H vs as ∧ S as P Ec ∧
  (∀ r as' v F' H', P r as' → PostOk T K F H vs as F' H' as' v r → Q v H') ∧ ∀ c F' H', Ec c → XcF K c → PostOk T K F H vs as F' H' [] .non (.dat .none) → E (.ref (He.ga K c)) none H'
/-- no cell is handed in -/
def NoCel (as : List SD) : Prop := ∀ (i : Nat) (p : Bool) (xs : List PyData), as[i]? ≠ some (.cel p xs)
/-- as FnG, for a def that may refuse -/
structure FnX (P : Program) (w : World) (K : PySem.W.Frag) (mg : Str → Option Value) (base : Heap) (T : List (Addr × Str)) (k : Nat) (f : Addr) (fd : FuncData) (ps : List Str) (S : DSpX) : Prop where
  len : ∀ as Q E, S as Q E → as.length = ps.length
  nc : ∀ as Q E, S as Q E → NoCel as
  go : ∀ (A : Around) (outer : List Env) (s : Shared) (H : Hp) (args : Args) (us : List Value) (vs : List V) (Q : VK) (E : XWish), Room k A → A.guards = some [] → Env0 P w K mg base A outer s H →
    BindsTo s fd args (ps.zip us) → Vals vs us → spDX T K S vs H Q E → codeAny (model P w) A (.call (.ref f) args) (CR (L2N.CX P w) outer P w H s Q E) s
structure DnX (P : Program) (w : World) (K : PySem.W.Frag) (mg : Str → Option Value) (base : Heap) (T : List (Addr × Str)) (x : Str) (k : Nat) (ps : List Str) (S : DSpX) : Prop where
  ex : ∃ fd, FnX P w K mg base T k (He.ga K x) fd ps S ∧ Binds K fd ps []
  glo : mg x = some (.ref (He.ga K x))
  kp : PySem.W.keepIn K (.ref (He.ga K x)) = true
section
variable {X : Cx} {k : Nat} {f : Addr} {fd : FuncData} {ps : List Str} {S : DSpX} {x : Str} {p pos : Pos} {e : Expr} {es : List Expr} {was : DA} {Ed : RD}
theorem run_x {pins : List (Addr × Obj)} {σ : L2.St} {H : Hp} {s : Shared} {Q : VK} {us : List Value} {vs : List V} (G : FnX X.prog X.w X.K X.mg X.base T k f fd ps S) (hr : Room k X.A) (hA : X.A.guards = some []) (hb : Binds X.K fd ps [])
    (tk : L2N.Takes X (liftW X.K Z Ed)) (I : Inv X pins σ H s) (rv : Vals vs us) (h : spDX T X.K S vs H Q (fun cls d H' => liftW X.K Z Ed cls d σ H')) : wpAny (model X.prog X.w) X.A (call (.ref f) us) (EP X pins σ Q) X.xe s := by
  obtain ⟨F0, as, P, Ec, a1, a2, _⟩ := id h
  have hl : (us ++ ([] : List Value)).length = ps.length := by rw [List.append_nil, ← rv.length, ← a1.len]; exact G.len _ _ _ a2
  have hbb := hb s us I.kIn hl
  rw [List.append_nil] at hbb
  refine wpAny_call (codeAny_mono (G.go X.A X.stack s H ⟨us, []⟩ us vs Q _ hr hA I.env0 hbb rv h) fun res s' hq => ?_)
  match res, hq with
  | .error e, hq => exact L2N.passAt tk σ pins H s e s' I hq
  | .ok (.ret u), hq => exact I.after hq
  | .ok .next, hq => exact hq.elim
  | .ok .brk, hq => exact hq.elim
  | .ok .cont, hq => exact hq.elim
/-- f(..), which may refuse -/
abbrev dCallE (S : DSpX) (Ed : RD) (was : DA) (env : List SD) (P : SD → List SD → Prop) : Prop := was env fun ds env1 => S (ds.map .dat) (fun r _ => P r env1) fun c => Ed c env1
theorem dcnE (D : DnX X.prog X.w X.K X.mg X.base T x k ps S) (hr : Room k X.A) (hA : X.A.guards = some []) (tk : L2N.Takes X (liftW X.K Z Ed))
    (ha : PA X (e :: es) (liftA X.K Z was)) (hg : Gl X x := by rfl) (hdb : (x == ("__debug__" : Str)) = false := by decide)
    (he : starEach (e :: es) X.env = (false, eval e X.env) :: starEach es X.env := by rfl) (hpl : (backTo pos (starEach es X.env)).any (·.1) = false := by rfl) : PE X (.Call (.Name x p) (e :: es) [] pos) (liftX X.K Z (dCallE S Ed was)) := by
  obtain ⟨fd, G, hb⟩ := D.ex
  refine ⟨fun pins s σ H Q I ⟨g, F, env, P, k0, w, q⟩ => wpAny_Call_Name_kw (ld_glob I hg D.glo (PySem.W.callWith_K (h₀ := X.base) I.ok.mod.kin D.kp (thn (ha.run pos pins s σ H (spDX T X.K S · · Q fun cls d H' => liftW X.K Z Ed cls d σ H') I ?_) fun us s1 ⟨vs, H1, I1, r, q1⟩ => ⟨I1.kIn, run_x G hr hA hb tk I1 r q1⟩) he hpl) hdb)⟩
  refine ⟨g, F, env, _, k0, w, fun ds env1 vs F1 H1 p1 e1 k1 r1 => ⟨F1, ds.map .dat, _, _, args_dat k1.fh k1.frame.tab k1.oldF.2 r1, p1, fun r as' v F2 H2 p2 po => ?_, fun c F2 H2 p2 xc po => ?_⟩⟩
  · obtain ⟨k2, r2⟩ := k1.after no_cel po
    exact q r env1 v F2 H2 p2 (e1.trans po.ex) k2 r2
  · exact ⟨c, rfl, rfl, xc, g, F2, env1, (k1.after no_cel po).1, p2⟩
end
section
variable {X : Cx} {m : Nat} {pos : Pos} {Ed : RD}
/-- raise X('..') -/
abbrev dRaise (c : Str) (Ed : RD) (_ : DEnds) (env : List SD) : Prop := Ed c env
theorem sraise {x msg : Str} {j : Nat} {p p2 pos2 : Pos} (hx : CtE X.K X.mg x) (hc : X.calm = true) (tk : L2N.Takes X (liftW X.K Z Ed)) (hg : Gl X x := by rfl) (hdb : (x == ("__debug__" : Str)) = false := by decide) :
    PS X (.Raise (some (.Call (.Name x p) [.Constant (.str msg) j p2] [] pos2)) none pos) (liftS X.K Z m (dRaise x Ed)) :=
  PS.of (L2N.ps_raise hc tk (L2N.pmk_own PySem.F.excBase_ValueError hx.2.made hx.1 hx.2.kp (raises_own hx.2.cls.hs hx.2.ty) hg hdb)) fun D σ H ⟨g, F, env, P, k, w, q⟩ =>
    (show liftW X.K Z Ed (.ref (He.ga X.K x)) none σ H from ⟨x, rfl, rfl, hx.2, g, F, env, k, w⟩)
end
section
variable {X : Cx} {pins : List (Addr × Obj)} {σ : L2.St} {H : Hp} {s : Shared} {a C : Addr} {oe : Obj} {vs : Array Value}
theorem excAt_new (e : s.heap.get? a = some oe) (hz : L2N.Zn (.ref C) none oe) (hd : oe.data = .fields vs) {P : Program} {w : World} {H : Hp} : ObjOk P w H s.heap a (.ext (ExcAt C a)) :=
  ⟨⟨oe, vs, e, hz.1, hz.2.1, hd, hz.2.2 vs hd⟩, ⟨oe, e⟩, fun h1 h2 ⟨o, us, q1, q2, q3, q4⟩ kp => ⟨o, us, kp o q1, q2, q3, q4⟩⟩
theorem Inv.caught (I : Inv X pins σ H s) (hex : X.ex = []) (h0 : X.s_0.heap.get? a = none) (hp : ∀ q ∈ X.pn ++ pins, q.1 ≠ a) (e : s.heap.get? a = some oe) (hz : L2N.Zn (.ref C) none oe) (hd : oe.data = .fields vs) (na : H a = none)
    (nL : a ≠ X.env.locals) : Inv (X.suite a (X.pn ++ pins)) [] σ (upd H a (.ext (ExcAt C a))) s where
  ok := I.ok.suite _ _
  os := I.os
  bare := I.bare
  base := by
    have hxx : ∀ b : Addr, b ∉ X.ex := fun b hb => by rw [hex] at hb; cases hb
    refine ⟨I.base.keep, I.base.slot, fun b o q n z => ?_, I.base.there, fun b xs q => ?_, fun b o u q => ?_, fun b ps q => ?_⟩
    · have ne : b ≠ a := fun y => by
        subst y
        have q' : X.s_0.heap.get? b = some o := q
        rw [h0] at q'
        cases q'
      rw [upd_ne ne]
      exact I.base.free b o q n z
    · have r := I.base.tups b xs q
      rw [upd_ne (ne_of_none r na)]
      exact r
    · have r := I.base.frzs b o u q
      rw [upd_ne (ne_of_none r na)]
      exact r
    · obtain ⟨more, r⟩ := I.base.tbls b ps q
      exact ⟨more, by rw [upd_ne (ne_of_none r na)]; exact r⟩
  loc := I.loc
  cell := I.cell
  free := by
    show upd H a (.ext (ExcAt C a)) X.env.locals = none
    rw [upd_ne (Ne.symm nL)]
    exact I.free
  freeC := fun x c q => by
    obtain ⟨v, hv⟩ := I.cell x c q
    have ne : c ≠ a := fun y => by
      subst y
      obtain ⟨o, h1, h2⟩ := hv
      rw [e] at h1
      cases h1
      rw [hd] at h2
      cases h2
    rw [upd_ne ne]
    exact I.freeC x c q
  pin := fun q hq => by
    rw [List.append_nil] at hq
    obtain ⟨z1, z2, z3, z4, z5⟩ := I.pin q hq
    exact ⟨z1, by rw [upd_ne (hp q hq)]; exact z2, z3, z4, z5⟩
  hok := fun b o q => by
    by_cases hb : b = a
    · subst hb
      rw [upd_same] at q
      cases q
      exact excAt_new e hz hd
    · rw [upd_ne hb] at q
      exact (I.hok b o q).stay (fun c u _ z => z) (fun c z => by rw [upd_ne (ne_of_none z na)]; exact z) fun c xs z => by rw [upd_ne (ne_of_none z na)]; exact z
  len := I.len
theorem Inv.released {pn' : List (Addr × Obj)} (I : Inv (X.suite a (X.pn ++ pins)) pn' σ H s) (ok : X.Ok) : Inv X pins σ H s where
  ok := ok
  os := I.os
  bare := I.bare
  base := I.base
  loc := I.loc
  cell := I.cell
  free := I.free
  freeC := I.freeC
  pin := fun q hq => I.pin q (List.mem_append_left _ hq)
  hok := I.hok
  len := I.len
end
end DL

namespace DL
variable {T : List (PySem.Addr × PySem.Str)} {Z : Zx T}
open PySem PySem.Spec PyProof.Rows L2
open Evl (Ex)
/-- a refusal as a datum -/
abbrev exD (c : Str) : PyData := .dict [(.none, .str c)]
/-- the suite's ends: the clause's name goes -/
def goneEnds (i : Nat) (E : DEnds) : DEnds :=
  { nx := fun e => bIf (noPar e i) (E.nx (e.set i .un)) False, rt := E.rt, bk := fun e => bIf (noPar e i) (E.bk (e.set i .un)) False, ct := fun e => bIf (noPar e i) (E.ct (e.set i .un)) False, nol := false }
abbrev dTry (i : Nat) (wb : RD → DS) (ws : DS) (E : DEnds) (env : List SD) : Prop := wb (fun c env1 => bIf (noPar env1 i) (ws (goneEnds i E) (env1.set i (.dat (exD c)))) False) { nx := E.nx, rt := E.rt, bk := E.bk, ct := E.ct, nol := false } env
section
variable {K : PySem.W.Frag} {g : Gx Z} {F : Hp} {env : List SD} {σ : L2.St} {H : Hp}
/-- what is fixed for a try's body -/
def tryZ (Z : Zx T) (F Pr : Hp) : Zx T := ⟨F, Z.H0, Z.A0, Pr, Z.P, Z.w⟩
def tryG (g : Gx Z) (F : Hp) : Gx (tryZ Z F g.Pr) := ⟨g.Pr, fun _ _ h => h, g.pl⟩
theorem Ok.inTry (k : Ok K g F env σ H) : Ok K (tryG g F) F env σ H where
  len := k.len
  fh := k.fh
  dat := k.dat
  cel := k.cel
  sep := k.sep
  pin := k.pin
  frame := k.frame
  newF := fun _ _ e => .inl e
  oldF := ⟨Ex.refl F, k.oldF.2⟩
  prot := k.prot
  dic := DicsOk.castZ (g := g) rfl rfl (fun _ z => z) (fun _ z => z) k.dic
theorem Ok.ofTry (k0 : Ok K g F env σ H) {g2 : Gx (tryZ Z F g.Pr)} {F2 : Hp} {env2 : List SD} {σ2 : L2.St} {H2 : Hp} (k : Ok K g2 F2 env2 σ2 H2) : Ex F F2 ∧ Ok K g F2 env2 σ2 H2 := by
  have e : Ex F F2 := k.oldF.1
  refine ⟨e, ⟨k.len, k.fh, k.dat, k.cel, k.sep, k.pin, k.frame, fun a o h => ?_, ⟨k0.oldF.1.trans e, k.oldF.2⟩, fun a o h => k.prot a o (g2.px a o h), DicsOk.castZ (g := g2) (g2 := g) rfl rfl (fun _ z => z) (fun a h6 => ?_) k.dic⟩⟩
  · rcases k.newF a o h with z | z
    · exact k0.newF a o z
    · exact .inr z
  · cases q : g.Pr a with
    | none => rfl
    | some o => rw [g2.px a o q] at h6; cases h6
theorem res_ofTry {F2 : Hp} {env2 : List SD} {σ2 : L2.St} {H2 : Hp} {v : V} {r : SD} (h : ResOk K (tryG g F) F2 env2 σ2 H2 v r) : ResOk K g F2 env2 σ2 H2 v r := by
  cases r <;> exact h
theorem Ends4.inTry {m : Nat} {P : DEnds} {D : Ends} (k0 : Ok K g F env σ H) (q : Ends4 K m g F P D) : Ends4 K m (tryG g F) F { nx := P.nx, rt := P.rt, bk := P.bk, ct := P.ct, nol := false } D where
  nx := fun env' σ' F' H' p e k => q.nx env' σ' F' H' p e (k0.ofTry k).2
  bk := fun env' σ' F' H' p e k => q.bk env' σ' F' H' p e (k0.ofTry k).2
  ct := fun env' σ' F' H' p e k => q.ct env' σ' F' H' p e (k0.ofTry k).2
  rt := fun r env' v σ' F' H' p e k rr => q.rt r env' v σ' F' H' p e (k0.ofTry k).2 (res_ofTry rr)
/-- the slot i holds nothing any more -/
def goneD (i : Nat) (D : Ends) : Ends := { nx := fun σ' H' => D.nx (σ'.set i none) H', rt := D.rt, bk := fun σ' H' => D.bk (σ'.set i none) H', ct := fun σ' H' => D.ct (σ'.set i none) H' }
theorem Ends4.gone {m i : Nat} {P : DEnds} {D : Ends} (q : Ends4 K m g F P D) : Ends4 K m g F (goneEnds i P) (goneD i D) where
  nx := fun env' σ' F' H' p e k => q.nx _ _ F' H' (bIf_and p).2 e (k.setU (noPar_of (bIf_and p).1))
  bk := fun env' σ' F' H' p e k => q.bk _ _ F' H' (bIf_and p).2 e (k.setU (noPar_of (bIf_and p).1))
  ct := fun env' σ' F' H' p e k => q.ct _ _ F' H' (bIf_and p).2 e (k.setU (noPar_of (bIf_and p).1))
  rt := q.rt
end
section
variable {X : Cx} {m i : Nat} {pos pos' np : Pos} {n : Str} {body suite : List Stmt} {b₀ : Stmt} {wb : RD → DS} {ws : DS}
end
end DL

namespace DL
variable {T : List (PySem.Addr × PySem.Str)} {Z : Zx T}
open PySem PySem.Spec PyProof.Rows L2
open Evl (Ex)
section
variable {P : Program} {w : World} {K : PySem.W.Frag} {mg : Str → Option Value} {base : Heap}
/-- as dfn, for a def that may refuse: Ec is what its caller wishes of refusals -/
theorem dfnX {x qual : Str} {st : Stmt} {f : Addr} {fd : FuncData} {N ps : List Str} {k : Nat} {S : DSpX} (Fn : Fun K x qual st f fd) (sc : FnScope N ps (defScope st)) (len : ∀ as Q E, S as Q E → as.length = ps.length) (nc : ∀ as Q E, S as Q E → NoCel as)
    (hbody : ∀ {Z : Zx T} (Ec : Str → Prop) (cdv : Value) (A : Around) (outer : List Env) (s : Shared) (H : Hp) (E : XWish), L2N.Takes (cxOf (L2N.CX P w) P w K mg base N qual (defScope st) f cdv A outer s H E) (liftW K Z fun c _ => Ec c) →
      PassesOwn (model P w) (A.deeper (envOfC qual (defScope st) s.heap.objs.size f cdv)) (envOfC qual (defScope st) s.heap.objs.size f cdv) (cxOf (L2N.CX P w) P w K mg base N qual (defScope st) f cdv A outer s H E).xe →
      Room k (A.deeper (envOfC qual (defScope st) s.heap.objs.size f cdv)) → (A.deeper (envOfC qual (defScope st) s.heap.objs.size f cdv)).guards = some [] →
      ∃ t : DS, PSs (cxOf (L2N.CX P w) P w K mg base N qual (defScope st) f cdv A outer s H E) (defBody st) (liftS K Z 0 t) ∧
        ∀ as Q, S as Q Ec → t (defEnds 0 Q) (as ++ List.replicate (N.length - ps.length) .un)) : FnX P w K mg base T (k + 1) f fd ps S := by
  obtain ⟨oc, od, kV, doc, pm, an, cdv, ct, osl, rfl, lk, hcd⟩ := Fn.ex
  refine ⟨len, nc, fun A outer s H args us vs Q E hr hg e0 hb rv ⟨F0, as, PP, Ec, ha, hS, hQ, hE⟩ => ?_⟩
  have al : as.length = ps.length := len as PP Ec hS
  have hl : vs.length = ps.length := ha.len.symm.trans al
  have hpl : ps.length ≤ N.length := by
    have := congrArg List.length sc.pre
    rw [List.length_take] at this
    omega
  have KX : K.In s.heap := e0.mod.kin.keeps fun b o e => (e0.bs b o e).1
  have noc := nc as PP Ec hS
  have cells : ∀ (i : Nat) (p : Bool) (xs : List PyData), as[i]? = some (.cel p xs) → i < 0 := fun i p xs e => absurd e (noc i p xs)
  refine codeAny_call_function hr.depth (KX _ _ lk) rfl sc.co sc.gen rfl (PySem.W.codeRec_of KX hcd) (hb _ _ _ _ (wpAny_newFunctionEnv_cells sc.kind (fun ⟨n, v⟩ hy => ?_) fun env he s1 y => ?_))
  · rcases sc.par n (List.of_mem_zip hy).1 with q | q
    · exact .inl q
    · exact .inr ⟨q, PySem.W.cellsFrom_some _ _ _ (.inl q)⟩
  · subst he
    have tk : L2N.Takes (cxOf (L2N.CX P w) P w K mg base N qual (defScope st) f cdv A outer s H E) (liftW K (entryZ T P w F0 H vs as) fun c _ => Ec c) := (L2N.takes_of rfl rfl rfl rfl).imp fun cls d σ2 H2 ⟨c, h1, h2, xc, g2, F2, env2, k2, h3⟩ => by
      subst h1 h2
      exact hE c F2 H2 h3 xc ⟨k2.oldF.1, k2.oldF.2, k2.fh, k2.newF, k2.frame.weak fun a o e _ i z => (by
        obtain ⟨p, xs, h1, h2⟩ := cellsAt_inv z
        exact noc i p xs h1), fun i p xs a h1 _ => absurd h1 (noc i p xs), .non⟩
    obtain ⟨t, ht, hq⟩ := hbody (Z := entryZ T P w F0 H vs as) Ec cdv A outer s H E tk (passes_of rfl) (hr.deeper _) hg
    have I : Inv (cxOf (L2N.CX P w) P w K mg base N qual (defScope st) f cdv A outer s H E) [] (start N vs) H s1 := inv_start sc hr.hd e0 hl rv y
    refine ⟨(e0.mod.nolimit.keeps fun b o e => (e0.bs b o e).1).keeps y.toInCall.keep, codeAny_func (wpAny_mono (ht.run [] s1 (start N vs) H { nx := fun _ H' => Q .non H', rt := Q } I ?_) (fun fl s' hs => ?_) fun e s' hs => hs)⟩
    · refine ⟨entryG T P w F0 H vs as, F0, _, _, entry_ok ha al hpl, hq as PP hS, ?_⟩
      exact .mk4 (.mk (fun env' σ' F' H' p _ k' => hQ _ _ _ _ _ p (post_of k' cells .non)) (fun _ _ _ _ p => p.elim) (fun _ _ _ _ p => p.elim) (fun r env' v σ' F' H' p _ k' r' => hQ _ _ _ _ _ p (post_of k' cells r'))) rfl
    · have fin : ∀ {σ' : L2.St} {H' : Hp} {v : V} {u : Value}, Inv (cxOf (L2N.CX P w) P w K mg base N qual (defScope st) f cdv A outer s H E) [] σ' H' s' → RelV v u → Q v H' → CE outer P w H s Q u s' :=
        fun {σ' H' v u} J r q => ⟨v, H', J.os, J.bare, J.base, J.hok, r, q⟩
      match fl, hs with
      | .ret u, ⟨v, σ', H', J, r, q⟩ => exact fin J r q
      | .next, ⟨σ', H', J, q⟩ => exact fin (v := V.non) (u := Value.none) J rfl q
      | .brk, ⟨_, _, _, q⟩ => exact q.elim
      | .cont, ⟨_, _, _, q⟩ => exact q.elim
end
/-- where nothing is refused, such a def is a plain one -/
theorem DnX.calm {P : Program} {w : World} {K : PySem.W.Frag} {mg : Str → Option Value} {base : Heap} {x : Str} {k : Nat} {ps : List Str} {S : DSpX} (D : DnX P w K mg base T x k ps S) : Dn P w K mg base T x k ps (fun as Q => S as Q fun _ => False) := by
  obtain ⟨⟨fd, G, hb⟩, h1, h2⟩ := D
  refine ⟨⟨fd, ⟨fun as Q h => G.len as Q _ h, fun A outer s H args us vs Q hr hA e0 bt rv ⟨F, as, P, a1, a2, a3⟩ => ?_⟩, hb⟩, h1, h2⟩
  refine codeAny_mono (G.go A outer s H args us vs Q (fun _ _ _ => False) hr hA e0 bt rv ⟨F, as, P, _, a1, a2, a3, fun _ _ _ z _ _ => z⟩) fun r s' h => ?_
  match r, h with
  | .error e, h =>
    obtain ⟨_, _, _, _, _, _, _, _, _, _, _, _, z⟩ := h
    exact z.elim
  | .ok (.ret u), h => exact h
  | .ok .next, h => exact h
  | .ok .brk, h => exact h
  | .ok .cont, h => exact h
theorem DnX.imp {P : Program} {w : World} {K : PySem.W.Frag} {mg : Str → Option Value} {base : Heap} {x : Str} {k : Nat} {ps : List Str} {S S' : DSpX} (D : DnX P w K mg base T x k ps S) (h : ∀ as Q E, S' as Q E → S as Q E) : DnX P w K mg base T x k ps S' := by
  obtain ⟨⟨fd, G, hb⟩, h1, h2⟩ := D
  exact ⟨⟨fd, ⟨fun as Q E q => G.len as Q E (h _ _ _ q), fun as Q E q => G.nc as Q E (h _ _ _ q), fun A outer s H args us vs Q E hr hA e0 bt rv ⟨F, as, P, Ec, a1, a2, a3⟩ => G.go A outer s H args us vs Q E hr hA e0 bt rv ⟨F, as, P, Ec, a1, h _ _ _ a2, a3⟩⟩, hb⟩, h1, h2⟩
def isxQ (d : PyData) (ds : List Str) (K : Bool → Prop) : Prop := match d with
  | .dict [(.none, .str c)] => K (ds.any (exSub c))
  | _ => False
theorem q_isx {c : Str} {ds : List Str} {K : Bool → Prop} : isxQ (exD c) ds K = K (ds.any (exSub c)) := rfl
abbrev dIsx (ds : List Str) (wa : DE) (env : List SD) (P : PyData → List SD → Prop) : Prop := wa env fun d env' => isxQ d ds fun b => P (.bool b) env'
def isvQ (d : PyData) (K : Bool → Prop) : Prop := match d with
  | .dict [(.none, .str _)] => K true
  | _ => False
abbrev dIsv (wa : DE) (env : List SD) (P : PyData → List SD → Prop) : Prop := wa env fun d env' => isvQ d fun b => P (.bool b) env'
section
variable {X : Cx} {a : Expr} {wa : DE} {p q2 pos : Pos} {es : List Expr} {ds : List Str}
theorem exc_inv {K : PySem.W.Frag} {F : Hp} {v : V} {c : Str} (r : DR K F v (exD c)) : ∃ b, v = .ref b ∧ F b = some (.ext (ExcAt (He.ga K c) b)) ∧ XcF K c := by
  cases r with
  | dct _ m => cases m
  | exc h x => exact ⟨_, rfl, h, x⟩
theorem disx {x : Str} (hm : X.mg "isinstance" = none) (hx : X.mg x = some (.ref (He.ga X.K x))) (hd : exNames.contains x = true) (ha : PE X a (liftE X.K Z wa)) (hg : Gl X "isinstance" := by rfl) (hgx : Gl X x := by rfl) (hdx : (x == ("__debug__" : Str)) = false := by decide)
    (hs1 : starEach [a, .Name x q2] X.env = (false, eval a X.env) :: starEach [.Name x q2] X.env := by rfl) (hs2 : starEach [.Name x q2] X.env = (false, eval (.Name x q2) X.env) :: starEach [] X.env := by rfl)
    (hpl : (backTo pos (starEach [Expr.Name x q2] X.env)).any (·.1) = false := by rfl) : PE X (.Call (.Name "isinstance" p) [a, .Name x q2] [] pos) (liftE X.K Z (dIsx [x] wa)) :=
  PE.of (pe_callB call_isE1 hg hm (by decide +kernel) (pa_cons ha (pa_cons (pe_glob (v := .ref (He.ga X.K x)) hgx hx rfl hdx) pa_nil hs2) hs1) (by decide) (by decide) hs1 hpl) fun σ H Q ⟨g, F, env, P, k, w, q⟩ => by
    refine ⟨g, F, env, _, k, w, fun d env1 v F1 H1 p e1 k1 r1 => ?_⟩
    unfold isxQ at p
    split at p
    · rename_i c
      obtain ⟨b, rfl, hF, xc⟩ := exc_inv r1
      have hd' : x ∈ exNames := by simpa using hd
      exact ⟨b, _, _, _, _, rfl, .own _, k1.fh _ _ hF, xc.cls, xc.own x hd', by simpa using q _ env1 _ F1 H1 p e1 k1 (.bl _)⟩
    · exact p.elim
theorem disv (hm : X.mg "isinstance" = none) (hmv : X.mg "ValueError" = none) (ha : PE X a (liftE X.K Z wa)) (hg : Gl X "isinstance" := by rfl) (hgx : Gl X "ValueError" := by rfl)
    (hs1 : starEach [a, .Name "ValueError" q2] X.env = (false, eval a X.env) :: starEach [.Name "ValueError" q2] X.env := by rfl) (hs2 : starEach [.Name "ValueError" q2] X.env = (false, eval (.Name "ValueError" q2) X.env) :: starEach [] X.env := by rfl)
    (hpl : (backTo pos (starEach [Expr.Name "ValueError" q2] X.env)).any (·.1) = false := by rfl) : PE X (.Call (.Name "isinstance" p) [a, .Name "ValueError" q2] [] pos) (liftE X.K Z (dIsv wa)) :=
  PE.of (pe_callB call_isE1 hg hm (by decide +kernel) (pa_cons ha (pa_cons (pe_bltn (v := .ty "ValueError") hgx hmv (by decide +kernel) rfl (by decide) (by decide)) pa_nil hs2) hs1) (by decide) (by decide) hs1 hpl) fun σ H Q ⟨g, F, env, P, k, w, q⟩ => by
    refine ⟨g, F, env, _, k, w, fun d env1 v F1 H1 p e1 k1 r1 => ?_⟩
    unfold isvQ at p
    split at p
    · rename_i c
      obtain ⟨b, rfl, hF, xc⟩ := exc_inv r1
      exact ⟨b, _, _, _, _, rfl, .ty _, k1.fh _ _ hF, xc.cls, xc.ve, q _ env1 _ F1 H1 p e1 k1 (.bl _)⟩
    · exact p.elim
end
end DL

namespace DL
variable {T : List (PySem.Addr × PySem.Str)} {Z : Zx T}
open PySem PySem.Spec PyProof.Rows L2
open Evl (Ex)
section
variable {K : PySem.W.Frag} {g : Gx Z} {F : Hp} {env : List SD} {σ : L2.St} {H : Hp}
/-- no name's cell is at D -/
def NoNm (env : List SD) (σ : L2.St) (D : Addr) : Prop := ∀ (j : Nat) (p : Bool) (ys : List PyData), env[j]? = some (.cel p ys) → σ[j]? ≠ some (some (.ref D))
end
abbrev KB := List (Key × V)
def KeysAre (kvs : KB) (ks : List Int) : Prop := kvs.map (·.1) = ks.map Sum.inl ∧ ks.Nodup
def intQ (d : PyData) (P : Prop) : Prop := match d with
  | .int _ => P
  | _ => False
def dsetN {I : Type} (f : I → PyData → (I → PyData → Prop) → (I → Prop) → Prop) (i : I) : List PyData → List PyData → (List PyData → Prop) → Prop
  | [], acc, K => sortSetQ (.list acc) K
  | d :: r, acc, K => f i d (fun i' k => i' = i ∧ intQ k (acc.length ≤ 1000 ∧ dsetN f i r (acc ++ [k]) K)) fun i' => i' = i ∧ dsetN f i r acc K
/-- sealed: the items aren't walked by the kernel -/
inductive dsetQ {I : Type} (f : I → PyData → (I → PyData → Prop) → (I → Prop) → Prop) (i : I) (items acc : List PyData) (K : List PyData → Prop) : Prop
  | mk : dsetN f i items acc K → dsetQ f i items acc K
theorem dsetQ.out {I : Type} {f : I → PyData → (I → PyData → Prop) → (I → Prop) → Prop} {i : I} {items acc : List PyData} {K : List PyData → Prop} (h : dsetQ f i items acc K) : dsetN f i items acc K := by
  cases h with
  | mk h => exact h
section
variable {X : Cx} {tg iter test key a b : Expr} {wa wb wk : DE} {wi : DI} {wt : DT} {D r : Str}
/-- what stands of the dict in the course of the walk -/
structure Dst (K : PySem.W.Frag) (g : Gx Z) (F : Hp) (env : List SD) (σ : L2.St) (H : Hp) (iD : Nat) (A : Addr) (acc : List PyData) (kvs : KB) : Prop where
  ok : Ok K g F env σ H
  slot : σ[iD]? = some (some (.ref A))
  hF : F A = none
  hH : H A = some (.dK kvs)
  keys : ∃ (ks ns : List Int), KeysAre kvs ks ∧ acc = ns.map PyData.int ∧ (∀ m, m ∈ ks ↔ m ∈ ns) ∧ ks.length ≤ ns.length
  nw : NoNm env σ A
end
end DL

namespace DL
variable {T : List (PySem.Addr × PySem.Str)} {Z : Zx T}
open PySem PySem.Spec PyProof.Rows L2
open Evl (Ex)
section
variable {X : Cx}
end
section
variable {X : Cx} {a e : Expr} {wa we : DE} {apos cpos : Pos}
end
def strsD : List PyData → Option (List Str)
  | [] => some []
  | .str i :: r => (strsD r).map (i :: ·)
  | _ :: _ => none
theorem strs_rel {K : PySem.W.Frag} {F : Hp} : ∀ {ds : List PyData} {vs : List V} {ns : List Str}, DRs K F vs ds → strsD ds = some ns → vs = ns.map V.str
  | [], _, _, h, e => by cases h; cases e; rfl
  | .str i :: r, _, ns, h, e => by
    cases h with
    | cons a b =>
      cases q : strsD r with
      | none => simp [strsD, q] at e
      | some ms =>
        simp only [strsD, q, Option.map_some, Option.some.injEq] at e
        subst e
        cases a.inv_str
        rw [strs_rel b q]
        rfl
  | .none :: _, _, _, _, e => by simp [strsD] at e
  | .bool _ :: _, _, _, _, e => by simp [strsD] at e
  | .int _ :: _, _, _, _, e => by simp [strsD] at e
  | .list _ :: _, _, _, _, e => by simp [strsD] at e
  | .tuple _ :: _, _, _, _, e => by simp [strsD] at e
  | .dict _ :: _, _, _, _, e => by simp [strsD] at e
def joinOk (a : Str) (ys : List Str) : Prop := (ys.map (·.length)).sum + ys.length * a.length ≤ 16777216
def joinQ (a : Str) (ys : Option (List Str)) (P : PyData → Prop) : Prop := match ys with
  | some ys => joinOk a ys ∧ P (.str (Txt.join a ys))
  | none => False
def nJoin (a : Str) (y : PyData) (P : PyData → Prop) : Prop := match y with
  | .list ds => joinQ a (strsD ds) P
  | .tuple ds => joinQ a (strsD ds) P
  | _ => False
abbrev dJoin (a : Str) (we : DE) (env : List SD) (P : PyData → List SD → Prop) : Prop := we env fun y env1 => nJoin a y fun z => P z env1
section
variable {X : Cx} {e : Expr} {we : DE} {apos pos p0 : Pos} {j0 : Nat}
theorem djoin {a : Str} (he : PE X e (liftE X.K Z we)) (hs : starEach [e] X.env = [(false, eval e X.env)] := by rfl)
    (hbase : attributeBase (.Constant (.str a) j0 p0) "join" X.env (eval (.Constant (.str a) j0 p0) X.env) = eval (.Constant (.str a) j0 p0) X.env := by rfl) (hline : (apos.endLine == pos.line) = true := by rfl) :
    PE X (.Call (.Attribute (.Constant (.str a) j0 p0) "join" apos) [e] [] pos) (liftE X.K Z (dJoin a we)) :=
  PE.of (pe_join (ds (Z := Z)) he hs hbase hline) fun σ H Q ⟨g, F, env, P, k, w, q⟩ => by
    refine ⟨g, F, env, fun d env' => d = .str a ∧ dJoin a we env' P, k, ⟨rfl, w⟩, fun d env1 v F1 H1 ⟨ed, w⟩ e1 k1 r1 => ?_⟩
    subst ed
    cases r1.inv_str
    refine ⟨⟨a, rfl⟩, g, F1, env1, _, k1, w, fun y env2 v2 F2 H2 p2 e2 k2 r2 => ?_⟩
    unfold nJoin at p2
    split at p2
    · obtain ⟨b, xs, rfl, h1, h2⟩ := r2.inv_lst
      unfold joinQ at p2
      split at p2
      · rename_i ys ey
        cases strs_rel h2 ey
        exact ⟨a, b, ys, rfl, rfl, .inl (h1.mono k2.fh).sq, p2.1, q _ env2 _ F2 H2 p2.2 (e1.trans e2) k2 (.str _)⟩
      · exact p2.elim
    · obtain ⟨b, xs, rfl, h1, h2⟩ := r2.inv_tup
      unfold joinQ at p2
      split at p2
      · rename_i ys ey
        cases strs_rel h2 ey
        exact ⟨a, b, ys, rfl, rfl, .inr (Evl.ex_t k2.fh h1), p2.1, q _ env2 _ F2 H2 p2.2 (e1.trans e2) k2 (.str _)⟩
      · exact p2.elim
    · exact p2.elim
end
end DL

namespace DL
variable {T : List (PySem.Addr × PySem.Str)} {Z : Zx T}
open PySem PySem.Spec PyProof.Rows L2
open Evl (Ex)
theorem _root_.L2H.RoomH.units {k : Nat} {A : Around} (r : L2H.RoomH k A) : A.units + 64 < cLine := by have := r.un; omega
theorem _root_.L2.Room.mark {k : Nat} {A : Around} {v : Option Value} (r : Room k A) : L2H.RoomH k (A.mark v) := ⟨r.dp, r.un⟩
/-- as FnG, whatever is handled -/
structure FnB (P : Program) (w : World) (K : PySem.W.Frag) (mg : Str → Option Value) (base : Heap) (T : List (Addr × Str)) (k : Nat) (f : Addr) (fd : FuncData) (ps : List Str) (S : DSp) : Prop where
  len : ∀ as Q, S as Q → as.length = ps.length
  go : ∀ (A : Around) (outer : List Env) (s : Shared) (H : Hp) (args : Args) (us : List Value) (vs : List V) (Q : VK), L2H.RoomH k A → A.guards = some [] → Env0 P w K mg base A outer s H →
    BindsTo s fd args (ps.zip us) → Vals vs us → spD T K S vs H Q → codeAny (model P w) A (.call (.ref f) args) (CR CX0 outer P w H s Q E0) s
structure DnB (P : Program) (w : World) (K : PySem.W.Frag) (mg : Str → Option Value) (base : Heap) (T : List (Addr × Str)) (x : Str) (k : Nat) (ps : List Str) (S : DSp) : Prop where
  ex : ∃ fd, FnB P w K mg base T k (He.ga K x) fd ps S ∧ Binds K fd ps []
  glo : mg x = some (.ref (He.ga K x))
  kp : PySem.W.keepIn K (.ref (He.ga K x)) = true
section
variable {P : Program} {w : World} {K : PySem.W.Frag} {mg : Str → Option Value} {base : Heap}
end
section
variable {X : Cx} {k : Nat} {f : Addr} {fd : FuncData} {ps : List Str} {S : DSp} {x : Str} {p pos : Pos} {e : Expr} {es : List Expr} {was : DA}
end
end DL

namespace DL
variable {T : List (PySem.Addr × PySem.Str)} {Z : Zx T}
open PySem PySem.Spec PyProof.Rows L2
open Evl (Ex)
def keyS (e : Int × Value) : Str := match e.2 with | .str k _ => k | _ => Str.empty
def GoodS (w : World) (e : Int × Value) : Prop := ∃ k t, e.2 = Value.str k t ∧ e.1 = hashStr w k
/-- a set of the texts ys, each once -/
def SetS (w : World) (h : Heap) (a : Addr) (ys : List Str) : Prop :=
  ∃ ob es ep tb, h.get? a = some ob ∧ ob.ExactSet ∧ ob.data = .set es ep tb ∧ (∀ e ∈ es.toList, GoodS w e) ∧ (es.toList.map keyS).Perm ys ∧ ys.Nodup ∧
    es.size < scanBound ∧ tb.fits es.size = true ∧ Ris tb.place.toList ∧ (w.params.followText "set-order" = true ∨ tb.led = true)
section
variable {P : Program} {w : World} {h h' : Heap} {a : Addr} {ys : List Str}
theorem SetS.at (R : SetS w h a ys) (k : ∀ o, h.get? a = some o → h'.get? a = some o) : SetS w h' a ys := by
  obtain ⟨ob, es, ep, tb, ho, r⟩ := R
  exact ⟨ob, es, ep, tb, k ob ho, r⟩
theorem SetS.size (R : SetS w h a ys) : ys.length < scanBound := by
  obtain ⟨ob, es, ep, tb, _, _, _, _, pm, _, hb, _⟩ := R
  rw [← pm.length_eq, List.length_map, Array.length_toList]
  exact hb
end
section
variable {P : Program} {w : World} {A : Around} {E : Value → Shared → Prop} {s : Shared} {a : Addr} {ys : List Str}
end
end DL

namespace DL
variable {T : List (PySem.Addr × PySem.Str)} {Z : Zx T}
open PySem PySem.Spec PyProof.Rows L2
open Evl (Ex)
/-- each once -/
def dd : List Str → List Str → List Str
  | acc, [] => acc
  | acc, k :: r => dd (if k ∈ acc then acc else k :: acc) r
section
variable {P : Program} {w : World} {A : Around} {E : Value → Shared → Prop} {s : Shared}
end
end DL

namespace DL
variable {T : List (PySem.Addr × PySem.Str)} {Z : Zx T}
open PySem PySem.Spec PyProof.Rows L2
open Evl (Ex)
section
variable {X : Cx}
end
section
variable {X : Cx} {a : Expr} {wa : DE} {p p2 pos pos2 : Pos}
end
end DL

namespace DL
variable {T : List (PySem.Addr × PySem.Str)} {Z : Zx T}
open PySem PySem.Spec PyProof.Rows L2
open Evl (Ex)
section
variable {X : Cx} {a b e : Expr} {we wa wb : DE} {pos : Pos}
end
end DL

namespace DL
variable {T : List (PySem.Addr × PySem.Str)} {Z : Zx T}
open PySem PySem.Spec PyProof.Rows L2
open Evl (Ex)
section
variable {X : Cx} {a b e : Expr} {we wa wb : DE} {pos p p2 pos2 : Pos}
end
end DL

namespace DL
variable {T : List (PySem.Addr × PySem.Str)} {Z : Zx T}
open PySem PySem.Spec PyProof.Rows L2
open Evl (Ex)
section
variable {X : Cx}
theorem DpAll.len {K : PySem.W.Frag} {H : Hp} : ∀ {xs : List V} {ds : List PyData}, DpAll K H xs ds → xs.length = ds.length
  | [], [], _ => rfl
  | _ :: _, _ :: _, .cons _ t => by rw [List.length_cons, List.length_cons, DpAll.len t]
end
section
variable {X : Cx} {a : Expr} {wa : DE} {p pos : Pos}
end
end DL

namespace DL
variable {T : List (PySem.Addr × PySem.Str)} {Z : Zx T}
open PySem PySem.Spec PyProof.Rows L2
open Evl (Ex)
section
variable {X : Cx}
variable {e : Expr} {es : List Expr} {was : DA} {pos p : Pos}
end
end DL

namespace DL
variable {T : List (PySem.Addr × PySem.Str)} {Z : Zx T}
open PySem PySem.Spec PyProof.Rows L2
section
variable {fa : List He.Fa} {fn : List He.FnD} {K : PySem.W.Frag} {mg : Str → Option Value}
end
end DL

namespace DL
variable {T : List (PySem.Addr × PySem.Str)} {Z : Zx T}
open PySem PySem.Spec PyProof.Rows L2
open Evl (Ex)
section
variable {X : Cx} {pins : List (Addr × Obj)} {σ : L2.St} {H : Hp} {s : Shared}
theorem TqT.obj (I : Inv X pins σ H s) {a : Addr} {xs : List V} (h : TqT X.K H a xs) : ∃ o, s.heap.get? a = some o ∧ PlT o := by
  rcases h with ⟨o, h, p⟩ | ⟨o, _, _, h, p, _⟩
  · exact ⟨o, (I.hok a _ h).1, p⟩
  · exact ⟨o, I.kIn a o h, p⟩
end
section
variable {X : Cx}
end
section
variable {X : Cx} {a e : Expr} {wa we : DE} {apos cpos : Pos}
end
end DL

namespace DL
variable {T : List (PySem.Addr × PySem.Str)} {Z : Zx T}
open PySem PySem.Spec PyProof.Rows L2 PySem.W
open Evl (Ex)
section
variable {prog : Program} {w : World} {A : Around} {E : Value → Shared → Prop} {s : Shared}
end
section
variable {X : Cx}
end
section
variable {X : Cx} {a : Expr} {wa : DE} {p pos : Pos}
end
end DL

namespace DL
variable {T : List (PySem.Addr × PySem.Str)} {Z : Zx T}
open PySem PySem.Spec PyProof.Rows L2 PySem.W
open Evl (Ex)
def kyOf : PyData → Option Key
  | .int n => some (.inl n)
  | .str x => some (.inr x)
  | _ => none
def keyD : Key → PyData
  | .inl n => .int n
  | .inr x => .str x
abbrev KVD := List (List Key × PyData)
def atD (kvs : KVD) (k : List Key) : Option PyData := (kvs.find? fun p => decide (p.1 = k)).map (·.2)
def putD (kvs : KVD) (k : List Key) (d : PyData) : KVD := if (atD kvs k).isSome = true then kvs.map (fun p => if p.1 = k then (p.1, d) else p) else kvs ++ [(k, d)]
section
variable {K : PySem.W.Frag} {F : Hp}
theorem DicR.val {kvs : KVD} {xs : List (List Key × Addr × Value)} (r : DicR K F kvs xs) (k : List Key) : (atD kvs k = none ∧ atKey xs k = none) ∨ ∃ d p v, atD kvs k = some d ∧ atKey xs k = some p ∧ DR K F v d ∧ RelV v p.2 := by
  unfold DicR at r
  induction r with
  | nil => exact .inl ⟨rfl, rfl⟩
  | @cons p q ps qs h t ih =>
    obtain ⟨h1, _, v, h2, h3⟩ := h
    by_cases e : p.1 = k
    · exact .inr ⟨p.2, q.2, v, by simp [atD, List.find?_cons, e], by simp [atKey, List.find?_cons, ← h1, e], h2, h3⟩
    · have e' : ¬ q.1 = k := fun z => e (h1.trans z)
      have a : atD (p :: ps) k = atD ps k := by simp [atD, List.find?_cons, e]
      have b : atKey (q :: qs) k = atKey qs k := by simp [atKey, List.find?_cons, e']
      rw [a, b]
      exact ih
theorem DicR.put {kvs : KVD} {xs : List (List Key × Addr × Value)} (r : DicR K F kvs xs) (k : List Key) {b : Addr} {d : PyData} {v : V} {u : Value} (hb : TqT K F b (k.map kV)) (hd : DR K F v d) (hu : RelV v u) : DicR K F (putD kvs k d) (storedH xs k b u) := by
  have e : (atD kvs k).isSome = (atKey xs k).isSome := by
    rcases r.val k with ⟨e1, e2⟩ | ⟨_, _, _, e1, e2, _⟩ <;> rw [e1, e2] <;> rfl
  unfold putD storedH
  rw [e]
  by_cases q : (atKey xs k).isSome = true
  · rw [if_pos q, if_pos q]
    clear e q
    unfold DicR at r ⊢
    induction r with
    | nil => exact .nil
    | @cons p q ps qs h t ih =>
      rw [List.map_cons, List.map_cons]
      refine .cons ?_ ih
      obtain ⟨h1, h2, h3⟩ := h
      unfold putAt
      by_cases e : p.1 = k
      · rw [if_pos e, if_pos (h1.symm.trans e)]; exact ⟨h1, h2, v, hd, hu⟩
      · rw [if_neg e, if_neg (fun z => e (h1.trans z))]; exact ⟨h1, h2, h3⟩
  · rw [if_neg q, if_neg q]
    exact Paired.snoc r ⟨rfl, hb, v, hd, hu⟩
end
section
variable {X : Cx} {pins : List (Addr × Obj)} {σ : L2.St} {H : Hp} {s : Shared} {a b : Addr} {F : Hp} {kvs : KVD} {xs : List (List Key × Addr × Value)}
end
section
variable {K : PySem.W.Frag} {g : Gx Z} {F : Hp} {env : List SD} {σ : L2.St} {H : Hp}
end
section
variable {X : Cx} {e b : Expr} {we wb : DE} {m : Nat} {pos : Pos}
end
end DL

namespace DL
variable {T : List (PySem.Addr × PySem.Str)} {Z : Zx T}
open PySem PySem.Spec PyProof.Rows L2 PySem.W
open Evl (Ex)
section
variable {X : Cx}
section
variable {k0 : Nat} {a : Expr} {pos p0 : Pos} {x : Str} {wa : DE}
end
end
end DL

namespace DL
variable {T : List (PySem.Addr × PySem.Str)} {Z : Zx T}
open PySem PySem.Spec PyProof.Rows L2
open Evl (Ex)
section
variable {P : Program} {w : World} {K : PySem.W.Frag} {mg : Str → Option Value} {base : Heap}
end
end DL

namespace DL
variable {T : List (PySem.Addr × PySem.Str)} {Z : Zx T}
open PySem PySem.Spec PyProof.Rows L2
open Evl (Ex)
section
variable {X : Cx}
end
end DL

namespace DL
variable {T : List (PySem.Addr × PySem.Str)} {Z : Zx T}
open PySem PySem.Spec PyProof.Rows L2
open Evl (Ex)
section
variable {prog : Program} {w : World} {A : Around} {E : Value → Shared → Prop} {s : Shared}
end
section
variable {X : Cx} {es : List Expr} {pos : Pos}
end
end DL

namespace DL
variable {T : List (PySem.Addr × PySem.Str)} {Z : Zx T}
open PySem PySem.Spec PyProof.Rows L2
open Evl (Ex)

section
variable {M : Model} {A : Around} {E1 : Value → Shared → Prop} {s : Shared} {B : Heap} {env : Env} {outer : List Env} {L C a : Addr} {Zp : Obj → Prop} {Q : Unit → Shared → Prop}
end
section
variable {X : Cx} {pins : List (Addr × Obj)} {σ : L2.St} {H : Hp} {s : Shared}
end
section
variable {X : Cx} {elt tg iter : Expr} {ifs : List Expr} {scope : Scope} {own : List (Str × Nat)} {pos : Pos} {wi : DI} {t : CT} {c : DT} {we : DE} {m : Nat} {I S : Type} {dec : List SD → Option (I × S)} {emb : I → S → List SD} {qb : PyData → I → S → (I → S → Prop) → (PyData → I → S → Prop) → Prop}
end
section
variable {P : Program} {w : World} {K : PySem.W.Frag} {mg : Str → Option Value} {base : Heap}
end
end DL

namespace DL
open PySem PySem.Spec PyProof.Rows L2
section
variable {P : Program} {w : World} {κ : Type} [DecidableEq κ] {kd : KeyKind P w κ}
section
variable {A : Around} {E : Value → Shared → Prop} {s : Shared}
end
abbrev hashT (kd : KeyKind P w κ) (p : Addr × List κ) : Int := tupleKeyHash kd p.2
def rowT (kd : KeyKind P w κ) (p : Addr × List κ) : Int × Value := (hashT kd p, .ref p.1)
/-- a set of tuples: each by its place and its parts -/
structure TSet (kd : KeyKind P w κ) (h : Heap) (a : Addr) (L : List (Addr × List κ)) (es : Array (Int × Value)) (ep : Nat) (t : SetTable) : Prop where
  ob : ∃ o, h.get? a = some o ∧ o.ExactSet ∧ o.data = .set es ep t
  ent : es.toList = L.map (rowT kd)
  tab : TabOk t (L.map (hashT kd))
  once : (L.map (·.2)).Nodup
  tup : ∀ p ∈ L, IsTupleKey kd h p.2 p.1
  led : w.params.followText "set-order" = true ∨ t.led = true
  room : L.length * 5 < t.mask * 3
  few : L.length < 64
section
variable {A : Around} {E : Value → Shared → Prop} {s : Shared} {a : Addr} {L : List (Addr × List κ)} {es : Array (Int × Value)} {ep : Nat} {t : SetTable}
theorem ent_size (e : es.toList = L.map (rowT kd)) : es.size = L.length := by
  rw [← Array.length_toList, e, List.length_map]
theorem tab_fits {t : SetTable} {hs : List Int} {n : Nat} (T : t.dummies = #[]) (h1 : t.place.size = n) (h2 : n ≤ t.mask) : t.fits n = true := by
  unfold SetTable.fits SetTable.fill
  rw [T, h1]
  simp only [beq_self_eq_true, Bool.true_and, decide_eq_true_eq]
  exact h2
theorem TSet.fits (R : TSet kd s.heap a L es ep t) : t.fits es.size = true := by
  have z1 := R.tab.sz
  have z2 := R.room
  rw [List.length_map] at z1
  rw [ent_size R.ent]
  exact tab_fits (hs := []) R.tab.dm z1 (by omega)
theorem TSet.place (R : TSet kd s.heap a L es ep t) : t.place.toList.length = L.length := by
  have z := R.tab.sz
  rw [List.length_map] at z
  rw [Array.length_toList, z]
end
/-- each once -/
def d1 {α : Type} [DecidableEq α] (acc : List α) (k : α) : List α := if k ∈ acc then acc else k :: acc
section
variable {A : Around} {E : Value → Shared → Prop} {s : Shared}
end
end
section
variable {X : Cx} {T : List (PySem.Addr × PySem.Str)} {Z : Zx T}
variable {a : Expr} {wa : DE} {pos p p2 pos2 : Pos}
end
end DL

namespace DL
variable {T : List (PySem.Addr × PySem.Str)} {Z : Zx T}
open PySem PySem.Spec PyProof.Rows L2 PySem.W
open Evl (Ex)
section
variable {P : Program} {w : World} {A : Around} {E : Value → Shared → Prop} {s : Shared}
end
section
variable {X : Cx}
variable {a : Expr} {wa : DE} {p pos : Pos}
end
section
variable {X : Cx} {e e2 : Expr} {wi we : DE} {m : Nat} {pos : Pos}
end
end DL

namespace DL
variable {T : List (PySem.Addr × PySem.Str)} {Z : Zx T}
open PySem PySem.Spec PyProof.Rows L2 PySem.W
open Evl (Ex)
section
variable {P : Program} {w : World} {A : Around} {E : Value → Shared → Prop} {s : Shared} {a : Addr}
end
section
variable {X : Cx}
variable {a : Expr} {wa : DE} {p p2 pos pos2 : Pos}
end
end DL

namespace DL
variable {T : List (PySem.Addr × PySem.Str)} {Z : Zx T}
open PySem PySem.Spec PyProof.Rows L2 PySem.W
open Evl (Ex)
section
variable {X : Cx} {a b c : Expr} {was : DA} {m : Nat} {pos : Pos}
end
end DL

namespace DL
variable {T : List (PySem.Addr × PySem.Str)} {Z : Zx T}
open PySem PySem.Spec PyProof.Rows L2 PySem.W
open Evl (Ex)
inductive Kx where
  | it
  | ix (b : Kx) (i : Nat)
  | hd (b : Kx) (n : Nat)
  | two (a b : Kx)
def Kx.val : Kx → PyData → Option PyData
  | .it, d => some d
  | .ix b i, d => match b.val d with
    | some (.tuple ds) => ds[i]?
    | _ => none
  | .hd b n, d => match b.val d with
    | some (.tuple ds) => if ds.length ≤ 1000 then some (.tuple (ds.take n)) else none
    | _ => none
  | .two a b, d => match a.val d, b.val d with
    | some x, some y => some (.tuple [x, y])
    | _, _ => none
inductive KbE (x : Str) : Expr → Kx → Prop
  | it {p : Pos} : KbE x (.Name x p) .it
  | ix {e : Expr} {b : Kx} {i j : Nat} {p pos : Pos} : KbE x e b → i < 1000 → KbE x (.Subscript e (.Constant (.int (i : Int)) j p) pos) (.ix b i)
  | hd {e : Expr} {b : Kx} {n j : Nat} {p p2 pos : Pos} : KbE x e b → n < 1000 → KbE x (.Subscript e (.Slice none (some (.Constant (.int (n : Int)) j p)) none p2) pos) (.hd b n)
  | two {e f : Expr} {a b : Kx} {x1} {pos : Pos} : KbE x e a → KbE x f b → (∀ env, backTo pos (starEach [e, f] env) = [(false, eval e env), (false, eval f env)]) → KbE x (.Tuple [e, f] x1 pos) (.two a b)
/-- all is kept, the value reads as d -/
def KpR (d : PyData) (s : Shared) (v : Value) (s' : Shared) : Prop := ∃ h' tk, s' = { s with heap := h', toks := tk } ∧ (∀ b o, s.heap.get? b = some o → h'.get? b = some o) ∧ ∃ as, Reads h' v d as
theorem KpR.trans {d : PyData} {s s' s'' : Shared} {v : Value} (k : ∃ h' tk, s' = { s with heap := h', toks := tk } ∧ (∀ b o, s.heap.get? b = some o → h'.get? b = some o)) (r : KpR d s' v s'') : KpR d s v s'' := by
  obtain ⟨h', tk, rfl, k⟩ := k
  obtain ⟨h2, tk2, rfl, k2, r⟩ := r
  exact ⟨h2, tk2, rfl, fun b o e => k2 b o (k b o e), r⟩
theorem KpR.kp {d : PyData} {s s' : Shared} {v : Value} (r : KpR d s v s') : ∃ h' tk, s' = { s with heap := h', toks := tk } ∧ (∀ b o, s.heap.get? b = some o → h'.get? b = some o) := by
  obtain ⟨h2, tk2, rfl, k2, r⟩ := r
  exact ⟨h2, tk2, rfl, k2⟩
section
variable {P : Program} {w : World} {A : Around} {env : Env} {x : Str} {v : Value} {m : Str → Option Value}
end
end DL

namespace DL
variable {T : List (PySem.Addr × PySem.Str)} {Z : Zx T}
open PySem PySem.Spec PyProof.Rows L2 PySem.W
open Evl (Ex)
section
variable {X : Cx} {pins : List (Addr × Obj)} {σ : L2.St} {H : Hp} {s : Shared}
/-- what the making of a lambda does to the abstract heap -/
structure Grown (T : List (Addr × Str)) (H H1 : Hp) : Prop where
  sty : ∀ b o, H b = some o → Sty o (H1 b)
  tab : LamX.Tabs T H1
end
section
variable {K : PySem.W.Frag} {g : Gx Z} {F F' : Hp} {env : List SD} {σ : L2.St} {H H1 : Hp}
theorem Ok.grown (k : Ok K g F env σ H) (e : Grown T H H1) : Ok K g F env σ H1 where
  len := k.len
  fh := fun a o q => (e.sty a o (k.fh a o q)).same fun ps z => k.oldF.2 a ps (by rw [q, z])
  dat := k.dat
  cel := fun i p xs q => by
    obtain ⟨a, vs, h1, h2, h3, h4, h5⟩ := k.cel i p xs q
    exact ⟨a, vs, h1, h2, (e.sty _ _ h3).lst, h4, h5⟩
  sep := k.sep
  pin := k.pin
  frame := ⟨fun a o q n => (k.frame.stay a o q n).trans fun u hu => e.sty a u hu, e.tab⟩
  newF := k.newF
  oldF := k.oldF
  prot := fun a o q => by
    obtain ⟨h1, h2, h3⟩ := k.prot a o q
    exact ⟨(e.sty _ _ h1).same (g.pl a o q), h2, h3⟩
  dic := k.dic.keep (Ex.refl F) (fun _ _ _ z => z) fun a xs h n => ⟨n, (e.sty _ _ h).ext.trans h.symm⟩
theorem ResOk.grown {v : V} {r : SD} (k : Ok K g F env σ H) (e : Grown T H H1) (h : ResOk K g F env σ H v r) : ResOk K g F env σ H1 v r := by
  cases r with
  | un => exact h
  | dat d => exact h
  | dic kvs => exact h
  | cel b xs =>
    obtain ⟨a, us, h1, h2, h3, h4, h5, h6⟩ := h
    exact ⟨a, us, h1, h2, (e.sty _ _ h3).lst, h4, h5, h6⟩
end
end DL

namespace DL
variable {T : List (PySem.Addr × PySem.Str)} {Z : Zx T}
open PySem PySem.Spec PyProof.Rows L2 PySem.W
open Evl (Ex)
/-- the scope of a lambda of the one parameter x -/
structure LamK (scope : Scope) (x : Str) : Prop where
  kind : scope.kind = .function
  co : scope.isCoroutine = false
  gen : scope.isGenerator = false
  loc : scope.names.lookup x = some .local
  nocell : ∀ y ∈ scope.names, y.2 ≠ .cell
section
variable {P : Program} {w : World} {A : Around} {s : Shared}
end
section
variable {prog : Program} {w : World} {A : Around} {E : Value → Shared → Prop} {s : Shared}
end
end DL

namespace DL
variable {T : List (PySem.Addr × PySem.Str)} {Z : Zx T}
open PySem PySem.Spec PyProof.Rows L2 PySem.W
open Evl (Ex)
section
variable {X : Cx} {pins : List (Addr × Obj)} {σ : L2.St} {H : Hp} {s : Shared}
end
section
variable {X : Cx} {a : Expr} {wa : DE} {p pos lpos kpos : Pos} {params : Arguments} {body : Expr} {scope : Scope} {x : Str}
end
end DL

namespace DL
variable {T : List (PySem.Addr × PySem.Str)} {Z : Zx T}
open PySem PySem.Spec PyProof.Rows L2
open Evl (Ex)
/-- the defs that make lambdas, with the lambda's qualified name -/
class LamB (K : PySem.W.Frag) (base : Heap) (mg : Str → Option Value) (T : List (Addr × Str)) (lam : List (Str × Str)) : Prop where
  out : ∀ p ∈ lam, ∃ c P, PySem.W.tabIn K p.1 = some (c, P) ∧ LamX.TabB base mg c P ∧ (P, p.2) ∈ T
  uni : ∀ p ∈ T, ∀ q ∈ T, p.1 = q.1 → p.2 = q.2
section
variable {P : Program} {w : World} {K : PySem.W.Frag} {mg : Str → Option Value} {base : Heap}
end
end DL

namespace DL
variable {T : List (PySem.Addr × PySem.Str)} {Z : Zx T}
open PySem PySem.Spec PyProof.Rows L2
open Evl (Ex)
def tabsOf (K : PySem.W.Frag) (lam : List (Str × Str)) : List (Addr × Str) := lam.filterMap fun p => (PySem.W.tabIn K p.1).map fun z => (z.2, p.2)
def LamSays (lam : List (Str × Str)) (K : PySem.W.Frag) (h : Heap) : Prop :=
  (∀ p ∈ lam, ∃ c P, PySem.W.tabIn K p.1 = some (c, P) ∧ PySem.W.CodeHd h c P ∧ h.get? P = some { cls := .none, data := .fields #[] } ∧ K.lookup P = none) ∧ ∀ p ∈ tabsOf K lam, ∀ q ∈ tabsOf K lam, p.1 = q.1 → p.2 = q.2
theorem LamSays.keeps {lam : List (Str × Str)} {K : PySem.W.Frag} {h h' : Heap} (x : LamSays lam K h) (k : ∀ b o, h.get? b = some o → h'.get? b = some o) : LamSays lam K h' :=
  ⟨fun p hp => let ⟨c, P, h1, h2, h3, h4⟩ := x.1 p hp; ⟨c, P, h1, h2.keeps k, k _ _ h3, h4⟩, x.2⟩
section
variable {K : PySem.W.Frag} {lam : List (Str × Str)} {base h : Heap} {mg : Str → Option Value}
end
end DL

namespace DL
variable {T : List (PySem.Addr × PySem.Str)} {Z : Zx T}
open PySem PySem.Spec PyProof.Rows L2 PySem.W
open Evl (Ex)
abbrev KVM := List (PyData × PyData)
def isKy : PyData → Key → Bool
  | .int m, .inl n => decide (m = n)
  | .str x, .inr y => decide (x = y)
  | _, _ => false
theorem isKy_int {m n : Int} : isKy (.int m) (.inl n) = decide (m = n) := rfl
theorem isKy_str {x y : Str} : isKy (.str x) (.inr y) = decide (x = y) := rfl
def atM (ds : KVM) (k : Key) : Option PyData := (ds.find? fun p => isKy p.1 k).map (·.2)
def putM (ds : KVM) (k : Key) (d : PyData) : KVM := if (ds.any fun p => isKy p.1 k) = true then ds.map (fun p => if isKy p.1 k = true then (p.1, d) else p) else ds ++ [(keyD k, d)]
section
variable {K : PySem.W.Frag} {F : Hp}
theorem isKy_i {n : Int} {k : Key} : isKy (.int n) k = decide ((Sum.inl n : Key) = k) := by
  cases k with
  | inl m =>
    rw [isKy_int]
    by_cases e : n = m
    · subst e; simp
    · rw [decide_eq_false e, decide_eq_false fun z => e (Sum.inl.inj z)]
  | inr y => rfl
theorem isKy_s {x : Str} {k : Key} : isKy (.str x) k = decide ((Sum.inr x : Key) = k) := by
  cases k with
  | inl m => rfl
  | inr y =>
    rw [isKy_str]
    by_cases e : x = y
    · subst e; simp
    · rw [decide_eq_false e, decide_eq_false fun z => e (Sum.inr.inj z)]
theorem DM.any (k : Key) : ∀ {vs : List (Key × V)} {ds : KVM}, DM K F vs ds → (vs.any fun kv => decide (kv.1 = k)) = ds.any fun p => isKy p.1 k
  | _, _, .nil => rfl
  | _, _, .int (n := n) _ b => by rw [List.any_cons, List.any_cons, DM.any k b, isKy_i]
  | _, _, .str (x := x) _ b => by rw [List.any_cons, List.any_cons, DM.any k b, isKy_s]
theorem DM.val (k : Key) : ∀ {vs : List (Key × V)} {ds : KVM}, DM K F vs ds → (atM ds k = none ∧ valV vs k = none) ∨ ∃ d v, atM ds k = some d ∧ valV vs k = some v ∧ DR K F v d
  | _, _, .nil => .inl ⟨rfl, rfl⟩
  | _, _, .int (n := n) (v := v) (d := d) (vs := vs) (ds := ds) a b => by
    by_cases e : (Sum.inl n : Key) = k
    · exact .inr ⟨d, v, by simp [atM, List.find?_cons, isKy_i, e], by simp [valV, List.find?_cons, e], a⟩
    · have x : atM ((.int n, d) :: ds) k = atM ds k := by simp [atM, List.find?_cons, isKy_i, e]
      have y : valV ((.inl n, v) :: vs) k = valV vs k := by simp [valV, List.find?_cons, e]
      rw [x, y]
      exact DM.val k b
  | _, _, .str (x := x) (v := v) (d := d) (vs := vs) (ds := ds) a b => by
    by_cases e : (Sum.inr x : Key) = k
    · exact .inr ⟨d, v, by simp [atM, List.find?_cons, isKy_s, e], by simp [valV, List.find?_cons, e], a⟩
    · have y1 : atM ((.str x, d) :: ds) k = atM ds k := by simp [atM, List.find?_cons, isKy_s, e]
      have y : valV ((.inr x, v) :: vs) k = valV vs k := by simp [valV, List.find?_cons, e]
      rw [y1, y]
      exact DM.val k b
theorem DM.snoc {k : Key} {v : V} {d : PyData} (r : DR K F v d) : ∀ {vs : List (Key × V)} {ds : KVM}, DM K F vs ds → DM K F (vs ++ [(k, v)]) (ds ++ [(keyD k, d)])
  | _, _, .nil => by cases k with
    | inl n => exact .int r .nil
    | inr x => exact .str r .nil
  | _, _, .int a b => .int a (DM.snoc r b)
  | _, _, .str a b => .str a (DM.snoc r b)
theorem DM.repl {k : Key} {v : V} {d : PyData} (r : DR K F v d) : ∀ {vs : List (Key × V)} {ds : KVM}, DM K F vs ds → DM K F (vs.map fun kv => if kv.1 = k then (kv.1, v) else kv) (ds.map fun p => if isKy p.1 k = true then (p.1, d) else p)
  | _, _, .nil => .nil
  | _, _, .int (n := n) a b => by
    rw [List.map_cons, List.map_cons]
    by_cases e : (Sum.inl n : Key) = k
    · rw [if_pos e, if_pos (by rw [isKy_i]; exact decide_eq_true e)]
      exact .int r (DM.repl r b)
    · rw [if_neg e, if_neg (by rw [isKy_i, decide_eq_false e]; simp)]
      exact .int a (DM.repl r b)
  | _, _, .str (x := x) a b => by
    rw [List.map_cons, List.map_cons]
    by_cases e : (Sum.inr x : Key) = k
    · rw [if_pos e, if_pos (by rw [isKy_s]; exact decide_eq_true e)]
      exact .str r (DM.repl r b)
    · rw [if_neg e, if_neg (by rw [isKy_s, decide_eq_false e]; simp)]
      exact .str a (DM.repl r b)
theorem DM.put {vs : List (Key × V)} {ds : KVM} (h : DM K F vs ds) (k : Key) {v : V} {d : PyData} (r : DR K F v d) : DM K F (putK vs k v) (putM ds k d) := by
  unfold putK putM
  rw [h.any k]
  split
  · exact h.repl r
  · exact h.snoc r
theorem DM.keys : ∀ {vs : List (Key × V)} {ds : KVM}, DM K F vs ds → DRs K F (vs.map fun p => kV p.1) (ds.map (·.1))
  | _, _, .nil => .nil
  | _, _, .int _ b => .cons (.int _) (DM.keys b)
  | _, _, .str _ b => .cons (.str _) (DM.keys b)
end
section
variable {X : Cx} {K : PySem.W.Frag}
end
section
variable {X : Cx} {a b e : Expr} {es : List Expr} {wa wb we : DE} {was : DA} {pos p : Pos}
end
section
variable {X : Cx} {a b e : Expr} {es : List Expr} {wa wb we : DE} {was : DA} {pos p : Pos} {K : PySem.W.Frag}
end
end DL

namespace DL
variable {T : List (PySem.Addr × PySem.Str)} {Z : Zx T}
open PySem PySem.Spec PyProof.Rows L2 PySem.W
open Evl (Ex)
section
variable {X : Cx} {o e f : Expr} {es : List Expr} {wo we wf : DE} {was : DA} {apos cpos pos p : Pos} {K : PySem.W.Frag}
end
end DL

namespace DL
variable {T : List (PySem.Addr × PySem.Str)} {Z : Zx T}
open PySem PySem.Spec PyProof.Rows L2 PySem.W
open Evl (Ex)
theorem codeO_kk {P : Program} {w : World} {a : Addr} {vs : List (Key × V)} {q : Str} : KkE P w a vs ≠ LamX.CodeO a q := fun z => by
  unfold KkE LamX.CodeO at z
  injection z with z
  have e : (({ objs := Array.replicate a { cls := .none, data := .plain } } : Heap).push { cls := .none, data := .fields #[.none, .str q 0] }).get? a = some { cls := .none, data := .fields #[.none, .str q 0] } := by
    have := Heap.get?_push_size { objs := Array.replicate a { cls := .none, data := .plain } } (o := { cls := .none, data := .fields #[.none, .str q 0] }) rfl
    simpa using this
  have y := (congrFun z (({ objs := Array.replicate a { cls := .none, data := .plain } } : Heap).push { cls := .none, data := .fields #[.none, .str q 0] })).mpr ⟨_, _, 0, e, rfl, rfl⟩
  obtain ⟨_, _, us, _, o, es, ep, e1, _, e2, _⟩ := y
  rw [e] at e1
  cases e1
  cases e2
theorem codeO_ls {a : Addr} {vs : List V} {q : Str} : LsE a vs ≠ LamX.CodeO a q := fun z => by
  unfold LsE LamX.CodeO at z
  injection z with z
  have e : (({ objs := Array.replicate a { cls := .none, data := .plain } } : Heap).push { cls := .none, data := .fields #[.none, .str q 0] }).get? a = some { cls := .none, data := .fields #[.none, .str q 0] } := by
    have := Heap.get?_push_size { objs := Array.replicate a { cls := .none, data := .plain } } (o := { cls := .none, data := .fields #[.none, .str q 0] }) rfl
    simpa using this
  have y := (congrFun z (({ objs := Array.replicate a { cls := .none, data := .plain } } : Heap).push { cls := .none, data := .fields #[.none, .str q 0] })).mpr ⟨_, _, 0, e, rfl, rfl⟩
  obtain ⟨_, its, n, _, e1⟩ := y
  rw [e] at e1
  cases e1
/-- the own thing at x is told as it is; a dict is known -/
def ToldO (P : Program) (w : World) (od : Addr → Obj) (x : Addr) (o o' : HO) : Prop := (∃ vs, o = KkE P w x vs ∧ o' = .frz (od x) (.dK vs)) ∨ ∃ vs, o = LsE x vs ∧ o' = .lst vs
def RcO (P : Program) (w : World) (od : Addr → Obj) (H H' : Hp) : Prop := ∀ x, H' x = H x ∨ ∃ o o', H x = some o ∧ H' x = some o' ∧ ToldO P w od x o o'
section
variable {X : Cx} {pins : List (Addr × Obj)} {σ : L2.St} {H H' : Hp} {s : Shared} {od : Addr → Obj}
theorem RcO.none (r : RcO X.prog X.w od H H') {x : Addr} : H' x = Option.none ↔ H x = Option.none := by
  rcases r x with e | ⟨o, o', e1, e2, _⟩
  · rw [e]
  · rw [e1, e2]; simp
theorem RcO.own (r : RcO X.prog X.w od H H') {x : Addr} {o : HO} (n1 : ∀ φ, o ≠ .ext φ) (n2 : ∀ ob u, o ≠ .frz ob u) (n3 : ∀ vs, o ≠ .lst vs) : H' x = some o ↔ H x = some o := by
  rcases r x with e | ⟨p, p', e1, e2, t⟩
  · rw [e]
  · rw [e1, e2]
    rcases t with ⟨vs, rfl, rfl⟩ | ⟨vs, rfl, rfl⟩
    · exact ⟨fun z => absurd (Option.some.inj z).symm (n2 _ _), fun z => absurd (Option.some.inj z).symm (n1 _)⟩
    · exact ⟨fun z => absurd (Option.some.inj z).symm (n3 _), fun z => absurd (Option.some.inj z).symm (n1 _)⟩
theorem _root_.L2.Inv.told (I : Inv X pins σ H s) (r : RcO X.prog X.w od H H') (ho : ∀ x ob, s.heap.get? x = some ob → od x = ob) : Inv X pins σ H' s where
  ok := I.ok
  os := I.os
  bare := I.bare
  base := ⟨I.base.keep, I.base.slot, fun b o e1 e2 e3 => r.none.mpr (I.base.free b o e1 e2 e3), I.base.there, fun b xs e => (r.own (fun _ z => by cases z) (fun _ _ z => by cases z) (fun _ z => by cases z)).mpr (I.base.tups b xs e),
    (fun b o u e => by
      have z := I.base.frzs b o u e
      rcases r b with y | ⟨p, p', e1, e2, t⟩
      · rw [y]; exact z
      · rw [z] at e1
        cases e1
        rcases t with ⟨vs, t, _⟩ | ⟨vs, t, _⟩ <;> cases t),
    fun b ps e => by
      obtain ⟨more, z⟩ := I.base.tbls b ps e
      exact ⟨more, (r.own (fun _ z => by cases z) (fun _ _ z => by cases z) (fun _ z => by cases z)).mpr z⟩⟩
  loc := I.loc
  cell := I.cell
  free := r.none.mpr I.free
  freeC := fun x c e => r.none.mpr (I.freeC x c e)
  pin := fun p hp => let ⟨z1, z2, z3⟩ := I.pin p hp; ⟨z1, r.none.mpr z2, z3⟩
  hok := fun a o e => by
    rcases r a with y | ⟨p, p', e1, e2, t⟩
    · rw [y] at e
      exact (I.hok a o e).stay (fun _ _ _ q => q) (fun b q => (r.own (fun _ z => by cases z) (fun _ _ z => by cases z) (fun _ z => by cases z)).mpr q) fun b xs q => (r.own (fun _ z => by cases z) (fun _ _ z => by cases z) (fun _ z => by cases z)).mpr q
    · rw [e2] at e
      cases e
      have x := I.hok a _ e1
      rcases t with ⟨vs, rfl, rfl⟩ | ⟨vs, rfl, rfl⟩
      · obtain ⟨⟨z1, z2, us, z3, z4⟩, ⟨ob, eo⟩, _⟩ := x
        refine ⟨by rw [ho a ob eo]; exact eo, z1, z2, us, z3, z4⟩
      · exact x.1
  len := I.len
end
end DL

namespace DL
variable {T : List (PySem.Addr × PySem.Str)} {Z : Zx T}
open PySem PySem.Spec PyProof.Rows L2 PySem.W
open Evl (Ex)
section
variable {X : Cx} {pins : List (Addr × Obj)} {σ : L2.St} {H : Hp} {s : Shared} {a : Addr} {vs : List (Key × V)}
end
section
variable {K : PySem.W.Frag} {g : Gx Z} {F : Hp} {env : List SD} {σ : L2.St} {H : Hp}
end
section
variable {X : Cx} {e b : Expr} {es : List Expr} {we wb : DE} {was : DA} {m : Nat} {p pos : Pos} {sts : List Stmt}
end
end DL

namespace DL
variable {T : List (PySem.Addr × PySem.Str)} {Z : Zx T}
open PySem PySem.Spec PyProof.Rows L2 PySem.W
open Evl (Ex)
/-- what the thing at x is told as -/
def TVal (K : PySem.W.Frag) (Z : Zx T) (F H : Hp) (env : List SD) (σ : L2.St) (B : Nat → List Addr) (x : Addr) (f : Obj → HO) : Prop :=
  (∃ (i : Nat) (ds : KVM) (vs : List (Key × V)), env[i]? = some (.dic (.kk ds)) ∧ σ[i]? = some (some (.ref x)) ∧ H x = some (KkE Z.P Z.w x vs) ∧ DM K F vs ds ∧ f = fun o => .frz o (.dK vs)) ∨
  (∃ (i : Nat) (rows : List (List PyData)), env[i]? = some (.dic (.mt rows)) ∧ σ[i]? = some (some (.ref x)) ∧ H x = some (LsE x ((B i).map .ref)) ∧ f = fun _ => .lst ((B i).map .ref)) ∨
  ∃ (i : Nat) (rows : List (List PyData)) (a : Addr) (j : Nat) (vs : List V) (row : List PyData), env[i]? = some (.dic (.mt rows)) ∧ σ[i]? = some (some (.ref a)) ∧ (B i)[j]? = some x ∧ rows[j]? = some row ∧ H x = some (LsE x vs) ∧ DRs K F vs row ∧ f = fun _ => .lst vs
theorem nodupG {α : Type} {l : List α} (h : l.Nodup) {i j : Nat} {x : α} (e1 : l[i]? = some x) (e2 : l[j]? = some x) : i = j := by
  obtain ⟨h1, e1⟩ := List.getElem?_eq_some_iff.mp e1
  obtain ⟨h2, e2⟩ := List.getElem?_eq_some_iff.mp e2
  have pw := List.pairwise_iff_getElem.mp h
  rcases Nat.lt_trichotomy i j with z | z | z
  · exact absurd (e1.trans e2.symm) (pw i j h1 h2 z)
  · exact z
  · exact absurd (e2.trans e1.symm) (pw j i h2 h1 z)
section
variable {K : PySem.W.Frag} {g : Gx Z} {F : Hp} {env : List SD} {σ : L2.St} {H : Hp} {B : Nat → List Addr}
theorem TVal.out (db : DicsB K g F env σ H B) {x : Addr} {f : Obj → HO} (t : TVal K Z F H env σ B x f) : F x = none ∧ g.H0 x = none ∧ ∃ o, H x = some o ∧ (∃ φ, o = .ext φ) ∧ (∀ q, o ≠ LamX.CodeO x q) ∧ ∀ (od : Addr → Obj), ToldO Z.P Z.w od x o (f (od x)) := by
  rcases t with ⟨i, ds, vs, e1, e2, e3, e4, rfl⟩ | ⟨i, rows, e1, e2, e3, rfl⟩ | ⟨i, rows, a, j, vs, row, e1, e2, e3, e4, e5, e6, rfl⟩
  · obtain ⟨f1, f2, _⟩ := db.there e1 e2 List.mem_cons_self
    exact ⟨f1, f2, _, e3, ⟨_, rfl⟩, fun _ => codeO_kk, fun od => .inl ⟨vs, rfl, rfl⟩⟩
  · obtain ⟨f1, f2, _⟩ := db.there e1 e2 List.mem_cons_self
    exact ⟨f1, f2, _, e3, ⟨_, rfl⟩, fun _ => codeO_ls, fun od => .inr ⟨_, rfl, rfl⟩⟩
  · obtain ⟨f1, f2, _⟩ := db.there e1 e2 (List.mem_cons_of_mem _ (List.mem_of_getElem? e3))
    exact ⟨f1, f2, _, e5, ⟨_, rfl⟩, fun _ => codeO_ls, fun od => .inr ⟨_, rfl, rfl⟩⟩
/-- two places of one's own things are one slot's -/
theorem DicsB.one (db : DicsB K g F env σ H B) {i j : Nat} {w w' : Own} {a b x : Addr} (e1 : env[i]? = some (.dic w)) (e2 : env[j]? = some (.dic w')) (s1 : σ[i]? = some (some (.ref a))) (s2 : σ[j]? = some (some (.ref b))) (h1 : x ∈ a :: B i) (h2 : x ∈ b :: B j) : i = j := by
  by_cases n : i = j
  · exact n
  · exact absurd h2 (db.sep i j w w' a b e1 e2 s1 s2 n x h1)
theorem TVal.kk (db : DicsB K g F env σ H B) {i : Nat} {ds : KVM} {x : Addr} {f : Obj → HO} (t : TVal K Z F H env σ B x f) (e : env[i]? = some (.dic (.kk ds))) (s : σ[i]? = some (some (.ref x))) : ∃ vs, DM K F vs ds ∧ f = fun o => .frz o (.dK vs) := by
  rcases t with ⟨i', ds', vs, e1, e2, e3, e4, rfl⟩ | ⟨i', rows, e1, e2, e3, rfl⟩ | ⟨i', rows, a, j, vs, row, e1, e2, e3, e4, e5, e6, rfl⟩
  · have := db.one e e1 s e2 List.mem_cons_self List.mem_cons_self
    subst this
    rw [e] at e1
    cases e1
    exact ⟨vs, e4, rfl⟩
  · have := db.one e e1 s e2 List.mem_cons_self List.mem_cons_self
    subst this
    rw [e] at e1
    cases e1
  · have := db.one e e1 s e2 List.mem_cons_self (List.mem_cons_of_mem _ (List.mem_of_getElem? e3))
    subst this
    rw [e] at e1
    cases e1
theorem TVal.mt (db : DicsB K g F env σ H B) {i : Nat} {rows : List (List PyData)} {x : Addr} {f : Obj → HO} (t : TVal K Z F H env σ B x f) (e : env[i]? = some (.dic (.mt rows))) (s : σ[i]? = some (some (.ref x))) : f = fun _ => .lst ((B i).map .ref) := by
  rcases t with ⟨i', ds', vs, e1, e2, e3, e4, rfl⟩ | ⟨i', rows', e1, e2, e3, rfl⟩ | ⟨i', rows', a, j, vs, row, e1, e2, e3, e4, e5, e6, rfl⟩
  · have := db.one e e1 s e2 List.mem_cons_self List.mem_cons_self
    subst this
    rw [e] at e1
    cases e1
  · have := db.one e e1 s e2 List.mem_cons_self List.mem_cons_self
    subst this
    rfl
  · have := db.one e e1 s e2 List.mem_cons_self (List.mem_cons_of_mem _ (List.mem_of_getElem? e3))
    subst this
    obtain ⟨c, y1, y2⟩ := db.at_ i _ e
    rw [s] at y1
    cases y1
    exact absurd (List.mem_of_getElem? e3) (List.nodup_cons.mp y2.rel.1.2).1
theorem TVal.row (db : DicsB K g F env σ H B) {i j : Nat} {rows : List (List PyData)} {row : List PyData} {a x : Addr} {f : Obj → HO} (t : TVal K Z F H env σ B x f) (e : env[i]? = some (.dic (.mt rows))) (s : σ[i]? = some (some (.ref a))) (hx : (B i)[j]? = some x) (hr : rows[j]? = some row) : ∃ vs, DRs K F vs row ∧ f = fun _ => .lst vs := by
  have mx : x ∈ a :: B i := List.mem_cons_of_mem _ (List.mem_of_getElem? hx)
  obtain ⟨c, y1, y2⟩ := db.at_ i _ e
  rw [s] at y1
  cases y1
  have nd := List.nodup_cons.mp y2.rel.1.2
  rcases t with ⟨i', ds', vs, e1, e2, e3, e4, rfl⟩ | ⟨i', rows', e1, e2, e3, rfl⟩ | ⟨i', rows', a', j', vs, row', e1, e2, e3, e4, e5, e6, rfl⟩
  · have := db.one e e1 s e2 mx List.mem_cons_self
    subst this
    rw [e] at e1
    cases e1
  · have := db.one e e1 s e2 mx List.mem_cons_self
    subst this
    rw [s] at e2
    cases e2
    exact absurd (List.mem_of_getElem? hx) nd.1
  · have := db.one e e1 s e2 mx (List.mem_cons_of_mem _ (List.mem_of_getElem? e3))
    subst this
    rw [e] at e1
    cases e1
    have := nodupG nd.2 hx e3
    subst this
    rw [hr] at e4
    cases e4
    exact ⟨vs, e6, rfl⟩
theorem tabs_to {H H' : Hp} (t : LamX.Tabs T H) (h1 : ∀ x ps, H x = some (.tbl ps) → H' x = some (.tbl ps)) (h2 : ∀ x q, H x = some (LamX.CodeO x q) → H' x = some (LamX.CodeO x q)) : LamX.Tabs T H' := fun p hp => by
  obtain ⟨ps, a1, a2, a3⟩ := t p hp
  exact ⟨ps, h1 _ _ a1, a2, fun pos cv hc => let ⟨c, z1, z2⟩ := a3 pos cv hc; ⟨c, z1, h2 _ _ z2⟩⟩
end
section
variable {X : Cx} {e : Expr}
end
end DL

namespace DL
variable {T : List (PySem.Addr × PySem.Str)} {Z : Zx T}
open PySem PySem.Spec PyProof.Rows L2 PySem.W
open Evl (Ex)
section
variable {X : Cx} {pins : List (Addr × Obj)} {σ : L2.St} {H : Hp} {s : Shared} {a : Addr} {vs : List V}
end
section
variable {X : Cx} {e : Expr} {st : Stmt}
end
section
variable {K : PySem.W.Frag} {g : Gx Z} {F : Hp} {env : List SD} {σ : L2.St} {H : Hp}
theorem Paired.setR {α β : Type} {R : α → β → Prop} {xs : List α} {ys : List β} (h : Paired R xs ys) : ∀ {j : Nat} {y : β}, (∀ x, xs[j]? = some x → R x y) → Paired R xs (ys.set j y) := by
  induction h with
  | nil => intro j y _; exact .nil
  | cons r t ih =>
    intro j y hy
    cases j with
    | zero => exact .cons (hy _ rfl) t
    | succ j => exact .cons r (ih fun x hx => hy x (by simpa using hx))
end
end DL

namespace DL
variable {T : List (PySem.Addr × PySem.Str)} {Z : Zx T}
open PySem PySem.Spec PyProof.Rows L2 PySem.W
open Evl (Ex)
section
variable {X : Cx} {e b : Expr} {es : List Expr} {we wb : DE} {m : Nat} {p pos : Pos} {sts : List Stmt} {st : Stmt}
end
end DL

namespace DL
variable {T : List (PySem.Addr × PySem.Str)} {Z : Zx T}
open PySem PySem.Spec PyProof.Rows L2 PySem.W
open Evl (Ex)
section
variable {K : PySem.W.Frag} {g : Gx Z} {F F' : Hp} {env env' : List SD} {σ : L2.St} {H H' : Hp} {B : Nat → List Addr}
theorem wipe_up {vs : List Nat} {i : Nat} {v : V} (e : (wipe σ vs)[i]? = some (some v)) : σ[i]? = some (some v) := by
  rw [wipe_get] at e
  by_cases hj : i ∈ vs
  · rw [if_pos hj] at e
    cases q : σ[i]? with
    | none => rw [q] at e; cases e
    | some o => rw [q] at e; cases e
  · rw [if_neg hj] at e
    exact e
theorem DicsB.unwiped {vs : List Nat} (d : DicsB K g F env (wipe σ vs) H B) : DicsB K g F env σ H B :=
  ⟨fun i w e => let ⟨a, h1, h2⟩ := d.at_ i w e; ⟨a, wipe_up h1, h2⟩, fun i j w w' a b e1 e2 s1 s2 => by
    obtain ⟨a', y1, _⟩ := d.at_ i w e1
    obtain ⟨b', y2, _⟩ := d.at_ j w' e2
    have z1 := wipe_up y1
    have z2 := wipe_up y2
    rw [s1] at z1
    rw [s2] at z2
    cases z1
    cases z2
    exact d.sep i j w w' a b e1 e2 y1 y2⟩
end
section
variable {X : Cx} {tg iter : Expr} {scope : Scope} {own : List (Str × Nat)} {pos p2 : Pos} {wi : DI} {m : Nat}
end
end DL

namespace DL
variable {T : List (PySem.Addr × PySem.Str)} {Z : Zx T}
open PySem PySem.Spec PyProof.Rows L2
open Evl (Ex)
section
variable {X : Cx} {K : PySem.W.Frag}
end
section
variable {P : Program} {w : World} {K : PySem.W.Frag} {mg : Str → Option Value} {base : Heap}
end
end DL

namespace DL
variable {T : List (PySem.Addr × PySem.Str)} {Z : Zx T}
open PySem PySem.Spec PyProof.Rows L2
open Evl (Ex)
section
variable {X : Cx}
end
section
variable {X : Cx} {a : Expr} {wa : DE} {p pos p1 kp : Pos} {nm : Option Str} {j : Nat}
end
end DL

namespace DL
variable {T : List (PySem.Addr × PySem.Str)} {Z : Zx T}
open PySem PySem.Spec PyProof.Rows L2
open Evl (Ex)
section
variable {X : Cx} {e : Expr}
end
end DL

namespace DL
variable {T : List (PySem.Addr × PySem.Str)} {Z : Zx T}
open PySem PySem.Spec PyProof.Rows L2
open Evl (Ex)
section
variable {X : Cx} {a : Expr} {wa : DE} {pos p p2 pos2 : Pos}
end
end DL

namespace DL
variable {T : List (PySem.Addr × PySem.Str)} {Z : Zx T}
open PySem PySem.Spec PySem.W PySem.Calls PyProof.Rows L2
open Evl (Ex)
section
variable {prog : Program} {w : World} {A : Around} {E : Value → Shared → Prop} {s : Shared}
end
section
variable {X : Cx}
end
section
variable {X : Cx} {a : Expr} {wa : DE} {p pos p1 kp : Pos} {nm : Option Str} {j : Nat}
end
end DL

namespace DL
variable {T : List (PySem.Addr × PySem.Str)} {Z : Zx T}
open PySem PySem.Spec PyProof.Rows L2 PySem.W
open Evl (Ex)
section
variable {X : Cx}
end
section
variable {X : Cx} {a : Expr} {wa : DE} {p pos : Pos}
end
end DL

namespace DL
variable {T : List (PySem.Addr × PySem.Str)} {Z : Zx T}
open PySem PySem.Spec PyProof.Rows L2 PySem.W
open Evl (Ex)
/-- a def of the top that returns a key of its one parameter -/
structure KeyD (K : PySem.W.Frag) (mg : Str → Option Value) (y : Str) (kb : Kx) : Prop where
  ex : ∃ (qual x : Str) (st : Stmt) (fd : FuncData) (e : Expr) (pos : Pos), Fun K qual qual st (He.ga K y) fd ∧ LamK (defScope st) x ∧ defBody st = [.Return (some e) pos] ∧ KbE x e kb ∧ Binds K fd [x] [] ∧ (x == ("__debug__" : Str)) = false
  glo : mg y = some (.ref (He.ga K y))
section
variable {X : Cx} {pins : List (Addr × Obj)} {σ : L2.St} {H : Hp} {s : Shared}
end
section
variable {X : Cx} {a : Expr} {wa : DE} {p pos kpos p2 : Pos} {y : Str}
end
end DL

namespace DL
variable {T : List (PySem.Addr × PySem.Str)} {Z : Zx T}
open PySem PySem.Spec PyProof.Rows L2 PySem.W
open Evl (Ex)
section
variable {X : Cx}
end
section
variable {X : Cx} {x : Str} {p p0 pos apos cpos : Pos}
end
end DL

namespace DL
variable {T : List (PySem.Addr × PySem.Str)} {Z : Zx T}
open PySem PySem.Spec PyProof.Rows L2 PySem.W
open Evl (Ex)
end DL

namespace RZ3
open PySem RZ
open PySem.Sem (wp)
theorem typeCall_zip_3 (a b c : Value) : checkTypeCall "zip" ⟨[a, b, c], []⟩ = pure () := by kernel_rfl
theorem newCall_zip_3 (a b c : Value) : checkBuiltinCall "zip.__new__" ⟨[.type "zip", a, b, c], []⟩ = pure () := by kernel_rfl
theorem args_object_init_4 (a b c d : Value) : argsOk "object.__init__" ⟨[a, b, c, d], []⟩ := by
  unfold argsOk; rw [signature?_of (id := "object.__init__") (n := ['_', '_', 't', 'i', 'n', 'i', '_', '_']) (o := ['t', 'c', 'e', 'j', 'b', 'o']) (by kernel_rfl) F.owner_object]; kernel_rfl
abbrev IsTrip (h : Heap) (T : Addr) (a b c : Value) : Prop := h.get? T = some { cls := .type "tuple", data := .seq #[a, b, c] }
structure Apart (z TI TO i1 i2 i3 l1 l2 l3 : Addr) : Prop where
  TI_z : TI ≠ z
  TO_z : TO ≠ z
  i1_z : i1 ≠ z
  i2_z : i2 ≠ z
  i3_z : i3 ≠ z
  TI_TO : TI ≠ TO
  TI_i1 : TI ≠ i1
  TI_i2 : TI ≠ i2
  TI_i3 : TI ≠ i3
  TO_i1 : TO ≠ i1
  TO_i2 : TO ≠ i2
  TO_i3 : TO ≠ i3
  i1_i2 : i1 ≠ i2
  i1_i3 : i1 ≠ i3
  i2_i3 : i2 ≠ i3
  l1_z : l1 ≠ z
  l1_TO : l1 ≠ TO
  l1_i1 : l1 ≠ i1
  l1_i2 : l1 ≠ i2
  l1_i3 : l1 ≠ i3
  l2_z : l2 ≠ z
  l2_TO : l2 ≠ TO
  l2_i1 : l2 ≠ i1
  l2_i2 : l2 ≠ i2
  l2_i3 : l2 ≠ i3
  l3_z : l3 ≠ z
  l3_TO : l3 ≠ TO
  l3_i1 : l3 ≠ i1
  l3_i2 : l3 ≠ i2
  l3_i3 : l3 ≠ i3
section
variable {prog : Program} {w : World} {A : Around} {E : Value → Shared → Prop} {s : Shared}
theorem wpAny_updateSeq_trip {T : Addr} {a b c x : Value} {k : Nat} {Q : Unit → Shared → Prop} (hT : IsTrip s.heap T a b c)
    (h : ∀ h', h'.get? T = some { cls := .type "tuple", data := .seq ((#[a, b, c] : Array Value).setIfInBounds k x) } → Heap.SameBut T s.heap h' → Q () { s with heap := h' }) :
    wpAny (model prog w) A (updateSeq T (·.setIfInBounds k x)) Q E s := by
  refine wpAny_updateSeq hT rfl (h _ ?_ (Heap.SameBut.update ..))
  rw [Heap.get?_update_self _ hT rfl]
  simp [Obj.mapSeq]
end
section
variable {prog : Program} {w : World} {A : Around} {E : Value → Shared → Prop} {s : Shared}
end
end RZ3

namespace DL
variable {T : List (PySem.Addr × PySem.Str)} {Z : Zx T}
open PySem PySem.Spec PyProof.Rows L2 RZ3
open Evl (Ex)
section
variable {X : Cx} {a b c : Expr} {was : DA} {pos : Pos}
end
end DL

namespace DL
variable {T : List (PySem.Addr × PySem.Str)} {Z : Zx T}
open PySem PySem.Spec PyProof.Rows L2
open Evl (Ex)
section
variable {X : Cx} {a b c : Expr} {was : DA} {pos : Pos}
end
end DL

namespace DL
variable {T : List (PySem.Addr × PySem.Str)} {Z : Zx T}
open PySem PySem.Spec PyProof.Rows L2 PySem.W
open Evl (Ex)
/-- without the thing at p -/
def delH (H : Hp) (p : Addr) : Hp := fun a => if a = p then none else H a
section
variable {H : Hp} {p a : Addr} {o : HO}
theorem delH_ne (h : a ≠ p) : delH H p a = H a := if_neg h
end
section
variable {K : PySem.W.Frag} {g : Gx Z} {F : Hp} {env : List SD} {σ : L2.St} {H : Hp}
theorem Ok.gone (k : Ok K g F env σ H) {D : Addr} {o0 : HO} (hD : H D = some o0) (hn : ∀ φ, o0 ≠ .ext φ) (t1 : ∀ ps, o0 ≠ .tbl ps) (t2 : ∀ q, o0 ≠ LamX.CodeO D q) (hF : F D = none) (h0 : g.H0 D = none) (hp : g.Pr D = none) (nw : NoNm env σ D) : Ok K g F env σ (delH H D) := by
  refine ⟨k.len, fun a u e => ?_, k.dat, fun i p xs e => ?_, k.sep, k.pin, ⟨fun a u e n => ?_, tabs_to k.frame.tab (fun x ps e => ?_) fun x q e => ?_⟩, k.newF, k.oldF, fun a u e => ?_, (k.dic.keep (Ex.refl F) (fun _ _ _ z => z) fun a xs e n => ⟨n, delH_ne fun z => ?_⟩)⟩
  · have ne : a ≠ D := fun z => by rw [z, hF] at e; cases e
    rw [delH_ne ne]
    exact k.fh a u e
  · obtain ⟨a, us, h1, h2, h3, h4⟩ := k.cel i p xs e
    have ne : a ≠ D := fun z => by subst z; exact nw i p xs e h1
    exact ⟨a, us, h1, h2, by rw [delH_ne ne]; exact h3, h4⟩
  · have ne : a ≠ D := fun z => by rw [z, h0] at e; cases e
    rw [delH_ne ne]
    exact k.frame.stay a u e n
  · have ne : x ≠ D := fun z => by rw [z, hD] at e; exact t1 ps (Option.some.inj e)
    rw [delH_ne ne]
    exact e
  · have ne : x ≠ D := fun z => by
      subst z
      rw [hD] at e
      exact t2 q (Option.some.inj e)
    rw [delH_ne ne]
    exact e
  · obtain ⟨z1, z2, z3⟩ := k.prot a u e
    have ne : a ≠ D := fun z => by rw [z, hp] at e; cases e
    exact ⟨by rw [delH_ne ne]; exact z1, z2, z3⟩
  · subst z
    rw [hD] at e
    exact hn xs (Option.some.inj e)
end
abbrev DPs := List SD → (List (Key × PyData) → List SD → Prop) → Prop
abbrev PrR (K : PySem.W.Frag) (F : Hp) : List (Key × PyData) → List (Key × V) → Prop := Paired fun p u => p.1 = u.1 ∧ DR K F u.2 p.2
theorem PrR.mono {K : PySem.W.Frag} {F F' : Hp} (e : Ex F F') {ps : List (Key × PyData)} {us : List (Key × V)} (h : PrR K F ps us) : PrR K F' ps us := Paired.mapP h fun _ _ ⟨h1, h2⟩ => ⟨h1, h2.mono e⟩
def liftPs (K : PySem.W.Frag) (Z : Zx T) (n : Nat) (w : DPs) (trs : List (TE × TE)) : Prop := ∀ (σ : L2.St) (H : Hp) (Q : List (V × V) → Hp → Prop),
  (∃ (g : Gx Z) (F : Hp) (env : List SD) (P : List (Key × PyData) → List SD → Prop), Ok K g F env σ H ∧ w env P ∧
    ∀ ps env' F' H' us, P ps env' → Ex F F' → Ok K g F' env' σ H' → PrR K F' ps us → us.length = n → Q (us.map fun kv => (kV kv.1, kv.2)) H') → tPairs trs σ H Q
def PP (X : Cx) (Z : Zx T) (pos : Pos) (keys : List (Option Expr)) (values : List Expr) (w : DPs) : Prop := ∃ trs, PPs X pos keys values trs ∧ liftPs X.K Z keys.length w trs
section
variable {X : Cx} {pos : Pos} {k v : Expr} {ks : List (Option Expr)} {vs : List Expr} {wk wv : DE} {w : DPs}
end
section
variable {X : Cx} {o e : Expr} {apos cpos : Pos} {td ty : TE}
end
/-- a dict's keys and values -/
def keysM (ds : KVM) : List (Key × PyData) := ds.filterMap fun p => (kyOf p.1).map fun k => (k, p.2)
theorem DM.pairs {K : PySem.W.Frag} {F : Hp} : ∀ {us : List (Key × V)} {ds : KVM}, DM K F us ds → PrR K F (keysM ds) us ∧ ds.length = us.length
  | _, _, .nil => ⟨.nil, rfl⟩
  | _, _, .int a b => by
    obtain ⟨h1, h2⟩ := DM.pairs b
    exact ⟨.cons ⟨rfl, a⟩ h1, by rw [List.length_cons, List.length_cons, h2]⟩
  | _, _, .str a b => by
    obtain ⟨h1, h2⟩ := DM.pairs b
    exact ⟨.cons ⟨rfl, a⟩ h1, by rw [List.length_cons, List.length_cons, h2]⟩
section
variable {X : Cx} {e : Expr} {m : Nat} {pos : Pos}
end
end DL

namespace DL
variable {T : List (PySem.Addr × PySem.Str)} {Z : Zx T}
open PySem PySem.Spec PyProof.Rows L2 PySem.W
open Evl (Ex)
open PySem.SeqAt in
section
end
section
variable {X : Cx} {a b : Expr} {wa wb : DE} {pos : Pos} {K : PySem.W.Frag}
end
end DL

namespace DL
variable {T : List (PySem.Addr × PySem.Str)} {Z : Zx T}
open PySem PySem.Spec PyProof.Rows L2 PySem.W
open Evl (Ex)
section
variable {K : PySem.W.Frag} {g : Gx Z} {F : Hp} {env : List SD} {σ : L2.St} {H : Hp}
end
section
variable {X : Cx} {m : Nat} {pos : Pos}
end
end DL

namespace DL
variable {T : List (PySem.Addr × PySem.Str)} {Z : Zx T}
open PySem PySem.Spec PyProof.Rows L2 PySem.W
open Evl (Ex)
section
variable {X : Cx} {e : Expr} {es : List Expr} {pos p : Pos} {was : DA} {K : PySem.W.Frag}
end
end DL

namespace DL
variable {T : List (PySem.Addr × PySem.Str)} {Z : Zx T}
open PySem PySem.Spec PyProof.Rows L2 PySem.W
open Evl (Ex)
section
variable {X : Cx} {tg iter : Expr} {scope : Scope} {own : List (Str × Nat)} {pos p2 : Pos} {wi : DI} {m : Nat}
end
section
variable {X : Cx} {e : Expr} {m : Nat} {pos : Pos}
end
end DL

namespace DL
variable {T : List (PySem.Addr × PySem.Str)} {Z : Zx T}
open PySem PySem.Spec PyProof.Rows L2
open Evl (Ex)
section
variable {P : Program} {w : World} {A : Around} {E : Value → Shared → Prop} {s : Shared}
end
section
variable {X : Cx} {a : Expr} {wa : DE} {p p2 pos pos2 : Pos}
end
end DL

namespace RZ3A
open PySem RZ
open PySem.Sem (wp)
open RZ3 (typeCall_zip_3 newCall_zip_3 args_object_init_4 IsTrip Apart wpAny_updateSeq_trip)
/-- a list or a tuple, and its iterator -/
def SqA (b : Bool) (h : Heap) (l : Addr) (xs : Array Value) : Prop := match b with
  | true => h.IsList l xs
  | false => h.IsTuple l xs
def ItA (b : Bool) (h : Heap) (i l : Addr) (k : Nat) : Prop := match b with
  | true => h.IsListIter i l k
  | false => h.IsTupleIter i l k
theorem SqA.extBut {b : Bool} {h h' : Heap} {a c : Addr} {items : Array Value} (x : SqA b h a items) (hs : Heap.ExtBut c h h') (hab : a ≠ c) : SqA b h' a items := by
  cases b with
  | true => exact Heap.IsList.extBut x hs hab
  | false => exact Heap.IsTuple.extBut x hs hab
theorem SqA.push {b : Bool} {h : Heap} {a : Addr} {items : Array Value} (x : SqA b h a items) (o : Obj) : SqA b (h.push o) a items := by
  cases b with
  | true => exact Heap.IsList.push x o
  | false => exact Heap.IsTuple.push x o
theorem ItA.extBut {b : Bool} {h h' : Heap} {a c l : Addr} {i : Nat} (x : ItA b h a l i) (hs : Heap.ExtBut c h h') (hab : a ≠ c) : ItA b h' a l i := by
  cases b with
  | true => exact Heap.IsListIter.extBut x hs hab
  | false => exact Heap.IsTupleIter.extBut x hs hab
theorem ItA.at {b : Bool} {h h' : Heap} {a l : Addr} {i : Nat} (x : ItA b h a l i) (e : ∀ o, h.get? a = some o → h'.get? a = some o) : ItA b h' a l i := by
  cases b with
  | true => exact Heap.IsListIter.at x e
  | false => exact Heap.IsTupleIter.at x e
theorem ItA.obj {b : Bool} {h : Heap} {a l : Addr} {i : Nat} (x : ItA b h a l i) : ∃ o, h.get? a = some o ∧ o.data = .fields #[.ref l, .int i 0] := by
  cases b with
  | true => obtain ⟨o, h1, _, h2⟩ := x; exact ⟨o, h1, h2⟩
  | false => obtain ⟨o, h1, _, h2⟩ := x; exact ⟨o, h1, h2⟩
theorem SqA.obj {b : Bool} {h : Heap} {a : Addr} {xs : Array Value} (x : SqA b h a xs) : ∃ o, h.get? a = some o := by
  cases b with
  | true => obtain ⟨o, h1, _⟩ := x; exact ⟨o, h1⟩
  | false => obtain ⟨o, h1, _⟩ := x; exact ⟨o, h1⟩
abbrev itObj (b : Bool) (l : Addr) : Obj := match b with
  | true => { cls := .type "list_iterator", data := .fields #[.ref l, .int 0 0] }
  | false => { cls := .type "tuple_iterator", data := .fields #[.ref l, .int 0 0] }
theorem itObj_live (b : Bool) (l : Addr) : (itObj b l).isFreed = false := by cases b <;> rfl
theorem itObj_ok {b : Bool} {h : Heap} {i l : Addr} (e : h.get? i = some (itObj b l)) : ItA b h i l 0 := by
  cases b with
  | true => exact ⟨_, e, rfl, rfl⟩
  | false => exact ⟨_, e, rfl, rfl⟩
section
variable {prog : Program} {w : World} {A : Around} {E : Value → Shared → Prop} {s : Shared}
theorem nextA_item {b : Bool} {it l : Addr} {i : Nat} {items} {x : Value} {Q : Value → Shared → Prop} (hit : ItA b s.heap it l i)
    (hl : SqA b s.heap l items) (hx : items[i]? = some x)
    (hQ : ∀ h', ItA b h' it l (i + 1) → Heap.SameBut it s.heap h' → Q x { s with heap := h' }) :
    wpAny (model prog w) A (Builtin.SmallTypes.nextOf (.ref it)) Q E s := by
  cases b with
  | true => exact wpAny_nextOf_list_item hit hl hx hQ
  | false => exact nextOf_tuple_item hit hl hx hQ
theorem nextA_end {b : Bool} {it l : Addr} {i : Nat} {items} {Q : Value → Shared → Prop} (hh : A.handled = none)
    (hit : ItA b s.heap it l i) (hl : SqA b s.heap l items) (hx : items[i]? = none)
    (hE : ∀ h' e, Heap.ExtBut it s.heap h' → (∃ o, h'.get? e = some o ∧ o.cls = .type "StopIteration") → E (.ref e) { s with heap := h' }) :
    wpAny (model prog w) A (Builtin.SmallTypes.nextOf (.ref it)) Q E s := by
  cases b with
  | true => exact wpAny_nextOf_list_end hh hit hl hx hE
  | false => exact nextOf_tuple_end hh hit hl hx hE
theorem pyIterA {b : Bool} {l : Addr} {items} {Q : Value → Shared → Prop} (hl : SqA b s.heap l items)
    (hQ : Q (.ref s.heap.objs.size) { s with heap := s.heap.push (itObj b l) }) :
    wpAny (model prog w) A (pyIter (.ref l)) Q E s := by
  cases b with
  | true => exact wpAny_pyIter_list hl hQ
  | false => exact wpAny_pyIter_tuple hl hQ
end
section
variable {prog : Program} {w : World} {A : Around} {E : Value → Shared → Prop} {s : Shared}
end
end RZ3A

namespace DL
variable {T : List (PySem.Addr × PySem.Str)} {Z : Zx T}
open PySem PySem.Spec PyProof.Rows L2 RZ3A
open RZ3 (IsTrip Apart)
open Evl (Ex)
def SqX (K : PySem.W.Frag) (b : Bool) (H : Hp) (a : Addr) (xs : List V) : Prop := match b with
  | true => SqL K H a xs
  | false => SqT K H a xs
theorem seqA_at {X : Cx} {pins : List (Addr × Obj)} {σ : L2.St} {H : Hp} {s : Shared} {b : Bool} {a : Addr} {xs : List V} (I : Inv X pins σ H s) (h : SqX X.K b H a xs) : ∃ its : List Value, Vals xs its ∧ SqA b s.heap a its.toArray ∧ xs.length ≤ sizeLine := by
  cases b with
  | true =>
    obtain ⟨its, h1, h2, h3⟩ := I.list h
    exact ⟨its, h1, h2.isList, h3⟩
  | false => exact I.tuple h
theorem seqA_inj {X : Cx} {pins : List (Addr × Obj)} {σ : L2.St} {H : Hp} {s : Shared} {b : Bool} {a : Addr} {xs ys : List V} (I : Inv X pins σ H s) (h : SqX X.K b H a xs) (k : SqX X.K b H a ys) : xs = ys := by
  cases b with
  | true => exact I.list_inj h k
  | false => exact I.tuple_inj h k
def seqOf : PyData → Option (Bool × List PyData)
  | .list xs => some (true, xs)
  | .tuple xs => some (false, xs)
  | _ => none
theorem DR.inv_seq {K : PySem.W.Frag} {F : Hp} {v : V} {d : PyData} {b : Bool} {ds : List PyData} (h : DR K F v d) (e : seqOf d = some (b, ds)) : ∃ a xs, v = .ref a ∧ (∀ F', Ex F F' → SqX K b F' a xs) ∧ DRs K F xs ds := by
  unfold seqOf at e
  split at e
  · cases e
    obtain ⟨a, us, rfl, h1, h2⟩ := h.inv_lst
    exact ⟨a, us, rfl, fun F' e => (h1.mono e).sq, h2⟩
  · cases e
    obtain ⟨a, us, rfl, h1, h2⟩ := h.inv_tup
    exact ⟨a, us, rfl, fun F' e => Evl.ex_t e h1, h2⟩
  · cases e
section
variable {X : Cx} {a b c : Expr} {was : DA} {pos : Pos}
end
end DL

namespace DL
variable {T : List (PySem.Addr × PySem.Str)} {Z : Zx T}
open PySem PySem.Spec PyProof.Rows L2
open Evl (Ex)
end DL

namespace DL
variable {T : List (PySem.Addr × PySem.Str)} {Z : Zx T}
open PySem PySem.Spec PyProof.Rows L2 PySem.W
open Evl (Ex)
section
variable {X : Cx} {a : Expr} {wa : DE} {p pos : Pos}
end
end DL

namespace DL
variable {T : List (PySem.Addr × PySem.Str)} {Z : Zx T}
open PySem PySem.Spec PyProof.Rows L2 PySem.W
open Evl (Ex)
section
variable {X : Cx} {e : Expr} {te : TE} {p apos cpos pos : Pos}
end
section
variable {K : PySem.W.Frag} {g : Gx Z} {env : List SD} {σ : L2.St}
end
section
variable {X : Cx} {a : Expr} {wa : DE} {p apos cpos pos : Pos}
end
end DL

namespace DL
variable {T : List (PySem.Addr × PySem.Str)} {Z : Zx T}
open PySem PySem.Spec PyProof.Rows L2 PySem.W
open Evl (Ex)
section
variable {X : Cx} {a b : Expr} {was : DA} {pos : Pos}
end
end DL

namespace DL
open PySem PySem.Spec PyProof.Rows L2
section
variable {K : PySem.W.Frag} {g : Addr → Option Obj} {n : Nat} {o : Option Obj}
end
end DL

namespace DL
variable {T : List (PySem.Addr × PySem.Str)} {Z : Zx T}
open PySem PySem.Spec PyProof.Rows L2 PySem.W
open Evl (Ex)
section
variable {K : PySem.W.Frag} {F F1 F2 : Hp}
end
section
variable {K : PySem.W.Frag} {g : Gx Z} {F F2 : Hp} {env : List SD} {σ : L2.St} {H : Hp}
end
section
variable {X : Cx} {e : Expr}
end
end DL

namespace DL
open PySem PySem.Spec PyProof.Rows L2 HotX

section
variable {prog : Program} {w : World} {A : Around} {E : Value → Shared → Prop} {s : Shared}
theorem hot_keep {A' : Around} {x1 : Addr} {h h' : Heap} (c : HotAt A x1 h) (ea : A'.handled = A.handled) (k : ∀ o, h.get? x1 = some o → h'.get? x1 = some o) : HotAt A' x1 h' :=
  let ⟨a, o, vs, b, d, e⟩ := c; ⟨ea.trans a, o, vs, k o b, d, e⟩
/-- StopIteration is made and raised -/
theorem stop_hot {α : Type} {it x1 : Addr} {h0 : Heap} {Q : α → Shared → Prop} (hot : HotAt A x1 s.heap) (eb : Heap.ExtBut it h0 s.heap)
    (hE : ∀ h' e, Heap.ExtBut it h0 h' → (∃ o, h'.get? e = some o ∧ o.cls = .type "StopIteration") → E (.ref e) { s with heap := h' }) :
    wpAny (model prog w) A (newExc (.type "StopIteration") [] >>= fun e => (raiseNew e : Sem α)) Q E s := by
  refine wpAny_bind ?_
  simp only [newExc, newTuple]
  refine wpAny_bind (wpAny_newObj_type ?_ (by size_fits))
  refine wpAny_bind (m := firstArgMember _ _) (wpAny_of_eq (a := Value.none) (by first | rfl | (simp only [firstArgMember]; rfl)) ?_)
  refine wpAny_newObj_type ?_ (by size_fits)
  obtain ⟨hh, o1, vs1, h1, d1, c1⟩ := hot
  refine raiseNew_hot ⟨hh, o1, vs1, Heap.get?_push_of_some _ (Heap.get?_push_of_some _ h1), d1, c1⟩ (Nat.ne_of_lt (Heap.lt_size (Heap.get?_push_of_some _ h1))) (Heap.get?_push_size _ rfl) rfl (by first | (simp; done) | (simp; omega) | (simp only [Array.size_append]; simp; omega)) ?_
  refine hE _ _ (fun b o hb e => ?_) ⟨_, Heap.get?_update_self _ (Heap.get?_push_size _ rfl) rfl, rfl⟩
  have e1 := eb b o hb e
  rw [Heap.get?_update_other _ _ (Nat.ne_of_gt (Heap.lt_size (Heap.get?_push_of_some _ e1)))]
  exact Heap.get?_push_of_some _ (Heap.get?_push_of_some _ e1)
theorem nextOf_list_endH {it l x1 : Addr} {i : Nat} {items} {Q : Value → Shared → Prop} (hot : HotAt A x1 s.heap) (ne : x1 ≠ it)
    (hit : s.heap.IsListIter it l i) (hl : s.heap.IsList l items) (hx : items[i]? = none)
    (hE : ∀ h' e, Heap.ExtBut it s.heap h' → (∃ o, h'.get? e = some o ∧ o.cls = .type "StopIteration") → E (.ref e) { s with heap := h' }) :
    wpAny (model prog w) A (Builtin.SmallTypes.nextOf (.ref it)) Q E s := by
  obtain ⟨o, ho, hc, hd⟩ := id hit
  obtain ⟨ol, hol, _, nl, hdl⟩ := hl
  unfold Builtin.SmallTypes.nextOf
  refine wpAny_bind (wpAny_callSpecial?_slot (name := Str.ofString "__next__") hit.typeIs slot_listiter_next
    (wpAny_call_entry slot_listiter_next hit.typeIs entry_listiter_next ?_ (args_listiter_next _)))
  show wpAny _ _ (field (.ref it) 0 >>= _) _ _ s
  refine wpAny_bind (wpAny_field ho hd (x := .ref l) rfl ?_)
  show wpAny _ _ (if (Value.ref l == Value.none) = true then _ else _) _ _ s
  rw [if_neg (show ¬ ((Value.ref l == Value.none) = true) from Bool.false_ne_true)]
  show wpAny _ _ (field (.ref it) 1 >>= _) _ _ s
  refine wpAny_bind (wpAny_field ho hd (x := .int i 0) rfl ?_)
  show wpAny _ _ (seqItems? (.ref l) >>= _) _ _ s
  refine wpAny_bind (wpAny_seqItems hol hdl ?_)
  simp only [Int.toNat_natCast, hx]
  refine wpAny_bind (wpAny_rule (wpAny_bind (wpAny_setField ho hd (by simp) ?_)))
  show wpAny _ _ (newExc (.type "StopIteration") [] >>= _) _ _ _
  exact stop_hot (it := it) (h0 := s.heap) (hot_keep hot rfl fun o e => (Heap.get?_update_other _ _ (Ne.symm ne)).trans e) (Heap.SameBut.update ..).extBut hE
theorem next_tuple_endH {it t x1 : Addr} {i : Nat} {items} {Q : Option Value → Shared → Prop} (hot : HotAt A x1 s.heap) (ne : x1 ≠ it)
    (hit : IsTupIter s.heap it t i) (ht : IsTup s.heap t items) (hx : items[i]? = none)
    (hQ : ∀ h', Heap.ExtBut it s.heap h' → Q none { s with heap := h' }) : wpAny (model prog w) A (pyNext (.ref it)) Q E s := by
  obtain ⟨o, ho, hc, hd⟩ := id hit
  obtain ⟨ol, hol, _, nl, hdl⟩ := ht
  unfold pyNext
  refine wpAny_bind (wpAny_attempt (wpAny_callSpecial?_slot (name := Str.ofString "__next__") hit.typeIs slot_tupleiter_next
    (wpAny_call_entry slot_tupleiter_next hit.typeIs entry_tupleiter_next ?_ (args_tupleiter_next _))))
  show wpAny _ _ (field (.ref it) 0 >>= _) _ _ s
  refine wpAny_bind (wpAny_field ho hd (x := .ref t) rfl ?_)
  show wpAny _ _ (if (Value.ref t == Value.none) = true then _ else _) _ _ s
  rw [if_neg (show ¬ ((Value.ref t == Value.none) = true) from Bool.false_ne_true)]
  show wpAny _ _ (field (.ref it) 1 >>= _) _ _ s
  refine wpAny_bind (wpAny_field ho hd (x := .int i 0) rfl ?_)
  show wpAny _ _ (seqItems? (.ref t) >>= _) _ _ s
  refine wpAny_bind (wpAny_seqItems hol hdl ?_)
  simp only [Int.toNat_natCast, hx]
  refine wpAny_bind (wpAny_rule (wpAny_bind (wpAny_setField ho hd (by simp) ?_)))
  show wpAny _ _ (newExc (.type "StopIteration") [] >>= _) _ _ _
  refine stop_hot (it := it) (h0 := s.heap) (hot_keep hot rfl fun o e => (Heap.get?_update_other _ _ (Ne.symm ne)).trans e) (Heap.SameBut.update ..).extBut fun h' e hk he => ?_
  obtain ⟨oe, h1, h2⟩ := he
  refine wpAny_bind (wpAny_isInstance (T := "StopIteration") (b := true) ⟨oe, h1, h2⟩ isSubtype_stop ?_)
  exact wpAny_pure (hQ _ hk)
theorem zip_next_endH {z TI TO i1 i2 l1 l2 x1 : Addr} {k1 k2 : Nat} {xs ys : Array Value} {a b : Value} {Q : Fin → Shared → Prop} (hot : HotAt A x1 s.heap) (nz : x1 ≠ z) (nO : x1 ≠ TO) (n1 : x1 ≠ i1) (n2 : x1 ≠ i2) (D : ZipApart z TI TO i1 i2 l1 l2)
    (hz : IsZip s.heap z TI TO .none) (hTI : IsPair s.heap TI (.ref i1) (.ref i2)) (hTO : IsPair s.heap TO a b)
    (h1 : s.heap.IsListIter i1 l1 k1) (h2 : s.heap.IsListIter i2 l2 k2) (hl1 : s.heap.IsList l1 xs) (hl2 : s.heap.IsList l2 ys) (hend : xs[k1]? = none ∨ ys[k2]? = none)
    (hE : ∀ h' e, (∀ c o, c ≠ z → c ≠ TO → c ≠ i1 → c ≠ i2 → s.heap.get? c = some o → h'.get? c = some o) → (∃ o, h'.get? e = some o ∧ o.cls = .type "StopIteration") → E (.ref e) { s with heap := h' }) :
    wpAny (model prog w) A (Builtin.«zip.__next__» ⟨[.ref z], []⟩) Q E s := by
  show wpAny _ _ (field (.ref z) 2 >>= _) _ _ _
  refine wpAny_bind (wpAny_field hz rfl (x := .bool false) rfl ?_)
  show wpAny _ _ (field (.ref z) 3 >>= _) _ _ _
  refine wpAny_bind (wpAny_field hz rfl (x := .ref TI) rfl ?_)
  refine wpAny_bind (wpAny_seqItems hTI rfl ?_)
  show wpAny _ _ (Builtin.SmallTypes.ownedTupleIsFree (.ref z) >>= _) _ _ _
  refine wpAny_bind ?_
  unfold Builtin.SmallTypes.ownedTupleIsFree
  refine wpAny_bind (wpAny_field hz rfl (x := .none) rfl (wpAny_pure ?_))
  simp only [if_true]
  refine wpAny_bind (wpAny_rule ?_)
  refine wpAny_bind (wpAny_field hz rfl (x := .ref TO) rfl ?_)
  refine wpAny_bind (wpAny_setField_rec hz (by simp) fun h₁ hz₁ hs₁ => ?_)
  replace hz₁ : IsZip h₁ z TI TO .ellipsis := hz₁
  refine wpAny_bind ?_
  simp only [List.zipIdx_cons, List.zipIdx_nil, List.forIn_cons, List.forIn_nil]
  refine wpAny_bind (wpAny_bind (wpAny_onRaise ?_))
  show wpAny _ _ (Builtin.SmallTypes.nextOf (.ref i1) >>= _) _ _ _
  cases hx : xs[k1]? with
  | none =>
    refine wpAny_bind (nextOf_list_endH (x1 := x1) (hot_keep hot rfl fun o e => hs₁.extBut _ _ nz e) n1 (h1.extBut hs₁.extBut D.i1z) (hl1.extBut hs₁.extBut D.l1z) hx fun h₂ e hs₂ he => ?_)
    obtain ⟨oe, hoe, hce⟩ := he
    have hz₂ : IsZip h₂ z TI TO .ellipsis := hs₂ _ _ D.i1z.symm hz₁
    have hez : e ≠ z := fun x => by subst x; rw [hz₂] at hoe; cases hoe; simp at hce
    refine wpAny_setField_rec hz₂ (by simp) fun h₃ _ hs₃ => hE h₃ e (fun c o c1 _ c3 _ x => hs₃.extBut _ _ c1 (hs₂ _ _ c3 (hs₁.extBut _ _ c1 x))) ⟨oe, hs₃.extBut _ _ hez hoe, hce⟩
  | some x =>
    have hy : ys[k2]? = none := by rcases hend with h | h; rw [hx] at h; cases h; exact h
    refine wpAny_bind (wpAny_nextOf_list_item (h1.extBut hs₁.extBut D.i1z) (hl1.extBut hs₁.extBut D.l1z) hx fun h₂ h1₂ hs₂ => wpAny_pure ?_)
    have hTO₂ : IsPair h₂ TO a b := hs₂.extBut _ _ D.TOi1 (hs₁.extBut _ _ D.TOz hTO)
    refine wpAny_bind (wpAny_seqItems hTO₂ rfl ?_)
    refine wpAny_bind (wpAny_updateSeq_pair hTO₂ fun h₃ hTO₃ hs₃ => ?_)
    refine wpAny_bind (wpAny_letGo (wpAny_pure ?_))
    refine wpAny_bind (wpAny_bind (wpAny_onRaise ?_))
    show wpAny _ _ (Builtin.SmallTypes.nextOf (.ref i2) >>= _) _ _ _
    refine wpAny_bind (nextOf_list_endH (x1 := x1) (hot_keep hot rfl fun o e => hs₃.extBut _ _ nO (hs₂.extBut _ _ n1 (hs₁.extBut _ _ nz e))) n2 (((h2.extBut hs₁.extBut D.i2z).extBut hs₂.extBut D.i12.symm).extBut hs₃.extBut D.TOi2.symm)
      (((hl2.extBut hs₁.extBut D.l2z).extBut hs₂.extBut D.l2i1).extBut hs₃.extBut D.l2TO) hy fun h₄ e hs₄ he => ?_)
    obtain ⟨oe, hoe, hce⟩ := he
    have hz₄ : IsZip h₄ z TI TO .ellipsis := hs₄ _ _ D.i2z.symm (hs₃.extBut _ _ D.TOz.symm (hs₂.extBut _ _ D.i1z.symm hz₁))
    have hez : e ≠ z := fun x => by subst x; rw [hz₄] at hoe; cases hoe; simp at hce
    refine wpAny_setField_rec hz₄ (by simp) fun h₅ _ hs₅ => hE h₅ e (fun c o c1 c2 c3 c4 x => hs₅.extBut _ _ c1 (hs₄ _ _ c4 (hs₃.extBut _ _ c2 (hs₂.extBut _ _ c3 (hs₁.extBut _ _ c1 x))))) ⟨oe, hs₅.extBut _ _ hez hoe, hce⟩
theorem pyNext_zip_endH {z TI TO i1 i2 l1 l2 x1 : Addr} {k1 k2 : Nat} {xs ys : Array Value} {a b : Value} {Q : Option Value → Shared → Prop} (hot : HotAt A x1 s.heap) (nz : x1 ≠ z) (nO : x1 ≠ TO) (n1 : x1 ≠ i1) (n2 : x1 ≠ i2) (D : ZipApart z TI TO i1 i2 l1 l2)
    (hz : IsZip s.heap z TI TO .none) (hTI : IsPair s.heap TI (.ref i1) (.ref i2)) (hTO : IsPair s.heap TO a b)
    (h1 : s.heap.IsListIter i1 l1 k1) (h2 : s.heap.IsListIter i2 l2 k2) (hl1 : s.heap.IsList l1 xs) (hl2 : s.heap.IsList l2 ys) (hend : xs[k1]? = none ∨ ys[k2]? = none)
    (hQ : ∀ h', (∀ c o, c ≠ z → c ≠ TO → c ≠ i1 → c ≠ i2 → s.heap.get? c = some o → h'.get? c = some o) → Q none { s with heap := h' }) : wpAny (model prog w) A (pyNext (.ref z)) Q E s := by
  have hT : s.TypeIs (.ref z) "zip" := ⟨_, hz, rfl⟩
  unfold pyNext
  refine wpAny_bind (wpAny_attempt (wpAny_callSpecial?_slot (name := Str.ofString "__next__") hT F.slot_zip_next
    (wpAny_call_entry F.slot_zip_next hT F.entry_zip_next (zip_next_endH (x1 := x1) (hot_keep hot rfl fun _ e => e) nz nO n1 n2 D hz hTI hTO h1 h2 hl1 hl2 hend fun h' e hk he => ?_) (F.args_zip_next_1 _))))
  obtain ⟨o, ho, hc⟩ := he
  refine wpAny_bind (wpAny_isInstance (T := "StopIteration") (b := true) ⟨o, ho, hc⟩ isSubtype_stop ?_)
  exact wpAny_pure (hQ _ hk)
theorem unpackItems_tupleH {t x1 : Addr} {items : Array Value} {Q : List Value → Shared → Prop} (hot : HotAt A x1 s.heap) (ht : IsTup s.heap t items)
    (hQ : ∀ h', Heap.ExtBut s.heap.objs.size s.heap h' → Q items.toList { s with heap := h' }) : wpAny (model prog w) A (unpackItems (.ref t) items.size none) Q E s := by
  have hlt : t ≠ s.heap.objs.size := by obtain ⟨o, ho, _⟩ := ht; exact Nat.ne_of_lt (Heap.lt_size ho)
  have hn1 : x1 ≠ s.heap.objs.size := by obtain ⟨_, o, _, ho, _⟩ := hot; exact Nat.ne_of_lt (Heap.lt_size ho)
  unfold unpackItems
  refine wpAny_bind ?_
  · unfold notIterableAtAll
    refine wpAny_bind (wpAny_specialOf ht.typeIs slot_tuple_iter.lookup ?_)
    refine wpAny_pure ?_
    simp only [Bool.false_eq_true, if_false]
    refine wpAny_bind (wpAny_holding (iter_tuple ht ?_))
    refine wpAny_bind (wpAny_holding (draw_tuple hlt items.size 0 _ _ ⟨_, Heap.get?_push_size _ rfl, rfl, rfl⟩ (ht.push _) (by omega) fun h₁ hit₁ hs₁ => ?_))
    have hall : List.take items.size (List.drop 0 items.toList) = items.toList := by
      rw [List.drop_zero]; exact List.take_of_length_le (by simp)
    rw [hall]
    rw [if_neg (by simp)]
    have ht₁ : IsTup h₁ t items := (ht.push _).extBut hs₁.extBut hlt
    refine wpAny_bind (wpAny_holding (next_tuple_endH (x1 := x1) (hot_keep hot rfl fun o e => hs₁.extBut _ _ hn1 (Heap.get?_push_of_some _ e)) hn1 hit₁ ht₁ (by simp) fun h₂ he₂ => ?_))
    simp only [Option.isSome_none, Bool.false_eq_true, if_false]
    refine wpAny_pure (hQ h₂ fun b o hb e => he₂ b o hb (hs₁.extBut b o hb (Heap.get?_push_of_some _ e)))
theorem assign_Tuple_tupleH {env : Env} {elts : List Expr} {k1} {pos : Pos} {t x1 : Addr} {items : Array Value} {Q : Unit → Shared → Prop} (hot : HotAt A x1 s.heap) (ht : IsTup s.heap t items)
    (hn : (assignEach elts env).length = items.size) (hstar : (assignEach elts env).findIdx? (·.1) = none)
    (h : ∀ h', Heap.ExtBut s.heap.objs.size s.heap h' → wpAny (model prog w) A (assignInOrder ((assignEach elts env).map (·.2)) items.toList) Q E { s with heap := h' }) :
    wpAny (model prog w) A (assign (.Tuple elts k1 pos) env (.ref t)) Q E s := by
  rw [assign_Tuple]
  refine wpAny_bind (wpAny_standAt ?_)
  unfold unpack
  rw [hn, hstar]
  exact wpAny_bind (wpAny_holding (unpackItems_tupleH hot ht h))
end
end DL

namespace DL
variable {T : List (PySem.Addr × PySem.Str)} {Z : Zx T}
open PySem PySem.Spec PyProof.Rows L2 HotX
open Evl (Ex)
/-- the caught one, tracked -/
abbrev XC (C e : Addr) : HO := .ext (ExcAt C e)
theorem hot_inv {X : Cx} {pins : List (Addr × Obj)} {σ : L2.St} {H : Hp} {s : Shared} {C e : Addr} (I : Inv X pins σ H s) (hh : X.A.handled = some (.ref e)) (q : H e = some (XC C e)) : HotAt X.A e s.heap := by
  obtain ⟨⟨oe, vs, h1, _, _, h4, h5⟩, _⟩ := (show ObjOk X.prog X.w H s.heap e (XC C e) from I.hok e _ q)
  exact ⟨hh, oe, vs, h1, h4, h5⟩
/-- an iterator beside the caught one -/
def ItH (J : It) (C e : Addr) : It := ⟨fun i H => J.go i H ∧ H e = some (XC C e), fun i H x H' => J.yld i H x H' ∧ H' e = some (XC C e), fun i H => J.stop i H ∧ H e = some (XC C e)⟩
structure TurnH (P : Program) (w : World) (K : PySem.W.Frag) (tg : Expr) (J : It) (fp : List Addr) (it : Addr) (tn : Nat → Heap → Prop) (C e : Addr) : Prop where
  mem : it ∈ fp
  obj : ∀ i h, tn i h → ∀ b ∈ fp, ∃ o, h.get? b = some o ∧ ∀ v, o.data ≠ .cell v
  keep : ∀ i h h', tn i h → (∀ b ∈ fp, ∀ o, h.get? b = some o → h'.get? b = some o) → tn i h'
  item : ∀ (X : Cx), X.prog = P → X.w = w → X.K = K → ∀ (i : Nat) (pins : List (Addr × Obj)) (s : Shared) (σ : L2.St) (H : Hp) (E : Value → Shared → Prop), Inv X pins σ H s → (∀ b ∈ fp, FpOk X pins H b) → tn i s.heap → J.go i H →
    wpAny (model P w) X.A (pyNext (.ref it)) (fun r s1 => ∃ u, r = some u ∧
      wpAny (model P w) X.A (letOwnedTupleGo tg (.ref it) u) (fun _ s2 => ∃ x H', Inv X pins σ H' s2 ∧ RelV x u ∧ J.yld i H x H' ∧ tn (i + 1) s2.heap ∧ ∀ b ∈ fp, H' b = none) E s1) E s
  done : ∀ (X : Cx), X.prog = P → X.w = w → X.K = K → X.A.handled = some (.ref e) → ∀ (i : Nat) (pins : List (Addr × Obj)) (s : Shared) (σ : L2.St) (H : Hp) (E : Value → Shared → Prop), Inv X pins σ H s → (∀ b ∈ fp, FpOk X pins H b) → tn i s.heap → J.stop i H → H e = some (XC C e) →
    wpAny (model P w) X.A (pyNext (.ref it)) (fun r s1 => r = none ∧ Inv X pins σ H s1) E s
  self : ∀ (A : Around) (i : Nat) (s : Shared) (Q : Value → Shared → Prop) (E : Value → Shared → Prop), tn i s.heap → Q (.ref it) s → wpAny (model P w) A (pyIter (.ref it)) Q E s
  has : ∀ i H x H', J.yld i H x H' → H e = some (XC C e) → H' e = some (XC C e)
def PIEH (X : Cx) (pins : List (Addr × Obj)) (σ : L2.St) (tg : Expr) (R : It → Hp → Prop) (C e : Addr) (itv : Value) (s2 : Shared) : Prop :=
  ∃ (it : Addr) (fp : List Addr) (tn : Nat → Heap → Prop) (J : It) (H' : Hp), itv = .ref it ∧ Inv X pins σ H' s2 ∧ TurnH X.prog X.w X.K tg J fp it tn C e ∧ tn 0 s2.heap ∧ (∀ b ∈ fp, FpOk X pins H' b) ∧ R (ItH J C e) H'
structure PIH (X : Cx) (tg iter : Expr) (wi : TI) (C e : Addr) : Prop where
  run : ∀ (pins : List (Addr × Obj)) (s : Shared) (σ : L2.St) (H : Hp) (R : It → Hp → Prop), Inv X pins σ H s → wi σ H R →
    wpAny (model X.prog X.w) X.A (eval iter X.env) (fun v s1 => wpAny (model X.prog X.w) X.A (pyIter v) (PIEH X pins σ tg R C e) X.xe s1) X.xe s
structure PGH (X : Cx) (target : Expr) (t : TG) (C e : Addr) : Prop where
  run : ∀ (pins : List (Addr × Obj)) (s : Shared) (σ : L2.St) (H : Hp) (v : V) (u : Value) (Q : L2.St → Hp → Prop), Inv X pins σ H s → H e = some (XC C e) → RelV v u → t v σ H Q →
    wpAny (model X.prog X.w) X.A (assign target X.env u) (fun _ s' => ∃ σ' H', Inv X pins σ' H' s' ∧ Q σ' H') X.xe s
theorem pg_tupH {X : Cx} {es : List Expr} {k : Nat} {t : TGs} {n : Nat} {pos : Pos} {C1 e1 : Addr} (hh : X.A.handled = some (.ref e1)) (h : PGs X es t)
    (hn : (assignEach es X.env).length = n := by rfl) (hst : (assignEach es X.env).findIdx? (·.1) = none := by rfl) : PGH X (.Tuple es k pos) (gTup X.K n t) C1 e1 := by
  refine ⟨fun pins s σ H v u Q I hx r hw => ?_⟩
  obtain ⟨a, xs, e1, hq, hl, hw⟩ := hw
  subst e1
  cases r
  obtain ⟨its, rv, ht, hz⟩ := I.tuple hq
  refine assign_Tuple_tupleH (hot_inv I hh hx) ht (by simp [hn, ← hl, rv.length]) hst fun h' hx => ?_
  have I1 : Inv X pins σ H { s with heap := h' } := I.kept (t' := s.toks) fun b o e => hx b o (Nat.ne_of_lt (Heap.lt_size e)) e
  exact h.run pins _ σ H xs _ Q I1 (by simpa using rv) hw
theorem turn_zipH {C1 e1 : Addr} {P : Program} {w : World} {K : PySem.W.Frag} {elts : List Expr} {kk : Nat} {tpos : Pos} {a b z TI TO i1 i2 : Addr} (D : ZipApart z TI TO i1 i2 a b) :
    TurnH P w K (.Tuple elts kk tpos) (Itz K a b) [z, TI, TO, i1, i2] z (fun i h => IsZip h z TI TO .none ∧ IsPair h TI (.ref i1) (.ref i2) ∧ (∃ x y, IsPair h TO x y) ∧ h.IsListIter i1 a i ∧ h.IsListIter i2 b i) C1 e1 where
  mem := by simp
  obj := fun i h st c hc => by
    obtain ⟨hz, hTI, ⟨x, y, hTO⟩, ⟨o1, e1, _, d1⟩, ⟨o2, e2, _, d2⟩⟩ := st
    have e' : c = z ∨ c = TI ∨ c = TO ∨ c = i1 ∨ c = i2 := by simpa using hc
    rcases e' with q | q | q | q | q
    · rw [q]; exact ⟨_, hz, fun v q => nomatch q⟩
    · rw [q]; exact ⟨_, hTI, fun v q => nomatch q⟩
    · rw [q]; exact ⟨_, hTO, fun v q => nomatch q⟩
    · rw [q]; exact ⟨o1, e1, fun v q => by rw [d1] at q; cases q⟩
    · rw [q]; exact ⟨o2, e2, fun v q => by rw [d2] at q; cases q⟩
  keep := fun i h h' st k => by
    obtain ⟨hz, hTI, ⟨x, y, hTO⟩, h1, h2⟩ := st
    exact ⟨k z (by simp) _ hz, k TI (by simp) _ hTI, ⟨x, y, k TO (by simp) _ hTO⟩, h1.at fun o q => k i1 (by simp) o q, h2.at fun o q => k i2 (by simp) o q⟩
  item := by
    intro X hP hw hK i pins s σ H E I hf st hg
    subst hP hw hK
    obtain ⟨hz, hTI, ⟨x0, y0, hTO⟩, h1, h2⟩ := st
    obtain ⟨xs, ys, x, y, hqx, hqy, hx, hy⟩ := hg
    obtain ⟨its, rv, p, _⟩ := I.list hqx
    obtain ⟨its2, rv2, p2, _⟩ := I.list hqy
    obtain ⟨u, hu, ru⟩ := rv.get hx
    obtain ⟨u2, hu2, ru2⟩ := rv2.get hy
    have hzl : z < s.heap.objs.size := Heap.lt_size hz
    refine wpAny_pyNext_zip_item D hz hTI hTO h1 h2 p.isList p2.isList (x := u) (y := u2) (by simpa using hu) (by simpa using hu2) fun h' z' TO' h1' h2' hT hsz hk => ?_
    refine ⟨_, rfl, wpAny_letOwnedTupleGo_zip (s := { s with heap := h' }) z' fun h'' z'' sb => ?_⟩
    have hT2 : h''.get? s.heap.objs.size = some { cls := .type "tuple", data := .seq #[u, u2] } := (sb.2 _ (Nat.ne_of_gt hzl)).trans hT
    have new : ObjOk X.prog X.w (upd H s.heap.objs.size (.tup [x, y])) h'' s.heap.objs.size (.tup [x, y]) :=
      ⟨by show 2 ≤ sizeLine; decide, [u, u2], .cons ru (.cons ru2 .nil), ⟨_, hT2, rfl, _, rfl⟩⟩
    have I1 : Inv X pins σ (upd H s.heap.objs.size (.tup [x, y])) { s with heap := h'' } :=
      I.turnedNew (t' := s.toks) (ch := [z, TI, TO, i1, i2]) (fun c o hb q => (sb.2 c (fun q' => hb (by simp [q']))).trans (hk c o (fun q' => hb (by simp [q'])) (fun q' => hb (by simp [q'])) (fun q' => hb (by simp [q'])) (fun q' => hb (by simp [q'])) q)) hf (Nat.le_refl _) new
    refine ⟨.ref s.heap.objs.size, _, I1, rfl, ⟨_, x, y, rfl, I.hok.fresh (Nat.le_refl _), rfl, fun l hl => by rw [I.list_inj hl hqx]; exact hx, fun l hl => by rw [I.list_inj hl hqy]; exact hy⟩, ⟨z'', ?_, ⟨u, u2, ?_⟩, ?_, ?_⟩, fun c hcm => ?_⟩
    · exact (sb.2 _ D.TIz).trans (hk _ _ D.TIz D.TITO D.TIi1 D.TIi2 hTI)
    · exact (sb.2 _ D.TOz).trans TO'
    · exact h1'.at fun o q => (sb.2 _ D.i1z).trans q
    · exact h2'.at fun o q => (sb.2 _ D.i2z).trans q
    · have hlt : c < s.heap.objs.size := by
        have e' : c = z ∨ c = TI ∨ c = TO ∨ c = i1 ∨ c = i2 := by simpa using hcm
        rcases e' with q | q | q | q | q
        · rw [q]; exact hzl
        · rw [q]; exact Heap.lt_size hTI
        · rw [q]; exact Heap.lt_size hTO
        · rw [q]; obtain ⟨_, e1, _⟩ := h1; exact Heap.lt_size e1
        · rw [q]; obtain ⟨_, e2, _⟩ := h2; exact Heap.lt_size e2
      rw [upd_ne (Nat.ne_of_lt hlt)]
      exact (hf c hcm).1
  done := by
    intro X hP hw hK hh i pins s σ H E I hf st hg hx1
    subst hP hw hK
    obtain ⟨hz, hTI, ⟨x0, y0, hTO⟩, h1, h2⟩ := st
    obtain ⟨xs, ys, hqx, hqy, hend⟩ := hg
    obtain ⟨its, rv, p, _⟩ := I.list hqx
    obtain ⟨its2, rv2, p2, _⟩ := I.list hqy
    have l1 := rv.length
    have l2 := rv2.length
    have he : its.toArray[i]? = none ∨ its2.toArray[i]? = none := by
      rcases hend with q | q
      · exact .inl (by simp; omega)
      · exact .inr (by simp; omega)
    have nx : ∀ b, b ∈ [z, TI, TO, i1, i2] → e1 ≠ b := fun b hb q => by
      have z1 := (hf b hb).1
      rw [← q, hx1] at z1
      cases z1
    exact pyNext_zip_endH (hot_inv I hh hx1) (nx z (by simp)) (nx TO (by simp)) (nx i1 (by simp)) (nx i2 (by simp)) D hz hTI hTO h1 h2 p.isList p2.isList he fun h' hk => ⟨rfl, I.turnedL (t' := s.toks) (ch := [z, TI, TO, i1, i2]) (fun c o hb q =>
      hk c o (fun q' => hb (by simp [q'])) (fun q' => hb (by simp [q'])) (fun q' => hb (by simp [q'])) (fun q' => hb (by simp [q'])) q) hf⟩
  self := fun A i s Q E st h => wpAny_pyIter_zip st.1 h
  has := fun i H x H' y hx => by
    obtain ⟨T, u, v, h1, h2, h3, h4, h5⟩ := y
    rw [h3, upd_ne (ne_of_none hx h2)]
    exact hx
section
variable {X : Cx} {pins : List (Addr × Obj)} {σ : L2.St} {H : Hp} {s : Shared}
theorem lc_coreH {C1 e1 : Addr} {pins : List (Addr × Obj)} {s : Shared} {σ : L2.St} {H : Hp} {Q : VK} {elt tg iter : Expr} {ifs : List Expr} {scope : Scope} {own : List (Str × Nat)} {pos pos' : Pos} {wi : TI} {g : TG} {tt : TT} {te : TE} {use : Option (Value → Sem Unit)} {Qf : Value → Shared → Prop}
    (hh : X.A.handled = some (.ref e1)) (hN : X.N.Nodup) (I : Inv X pins σ H s) (hi : PIH X tg iter wi C1 e1) (ok : BlkOk X.N X.env.scope scope own)
    (hg : ∀ (s : Shared) (H : Hp) (C : Addr) (cl : List (Str × Addr)) (fp : List Addr), PGH (X.blk s H scope (compEnvC scope cl C X.env) fp) tg g C1 e1) (ht : ∀ (s : Shared) (H : Hp) (C : Addr) (cl : List (Str × Addr)) (fp : List Addr), PTs (X.blk s H scope (compEnvC scope cl C X.env) fp) ifs tt)
    (he : ∀ (s : Shared) (H : Hp) (C : Addr) (cl : List (Str × Addr)) (fp : List Addr), PE (X.blk s H scope (compEnvC scope cl C X.env) fp) elt te) (hs : ∀ x, foldedSetIterable iter X.env x = pure x)
    (h : tLc wi g tt te (own.map (·.2)) σ H Q)
    (hRR : ∀ D C s' m H', Inv X pins σ H' s' → Q (.ref D) H' → s'.heap.Ns C m → FpOk X pins H' C → compPost (model X.prog X.w) X.A X.xe use Qf (.ref D) C (.ok .next) s') :
    wpAny (model X.prog X.w) X.A (comprehension (.ListComp elt [⟨tg, iter, ifs, 0⟩] scope pos) scope X.env pos' (newList []) false (eval iter X.env) use) Qf X.xe s := by
  have hfree : ∀ y ∈ scope.names, y.2 = .free → ∃ c, X.env.cells.lookup y.1 = some c := fun y hy e => by
    rcases ok.free y hy e with k | k
    · exact I.ok.has _ (.inl k)
    · exact I.ok.has _ (.inr k)
  refine wpAny_comprehension_free (use := use) rfl hs (closure_ok hfree) ok.kind (fun y hy e => by rw [ok.uniq y hy, e])
    (thn (hi.run pins s σ H _ I h) fun xv s1 hx => thn hx fun itv s2 h2 => ?_)
  obtain ⟨it, fp, tn, J, H2, e, I2, T, st2, f2, q⟩ := h2
  subst e
  refine wpAny_newObj_type (newEnv_comp ?_) (by show 0 ≤ sizeLine; decide)
  generalize hD : s2.heap.objs.size = D
  have hDn : H2 D = none := I2.hok.fresh (Nat.le_of_eq hD)
  obtain ⟨W, ⟨m0, w0⟩, turn⟩ := q D hDn
  -- the new list
  generalize hs3 : ({ s2 with heap := s2.heap.push { cls := .type "list", data := .seq ([] : List Value).toArray } } : Shared) = s3
  have I3 : Inv X pins σ (upd H2 D (.lst [])) s3 := by
    rw [← hs3]
    refine I2.laid (t' := s2.toks) (fun b o e => Heap.get?_push_of_some _ e) (Nat.le_of_eq hD) ⟨Nat.zero_le _, [], 0, .nil, ?_⟩
    rw [← hD]
    exact Heap.get?_push_size _ rfl
  have h3 : s3.heap = s2.heap.push { cls := .type "list", data := .seq ([] : List Value).toArray } := by rw [← hs3]
  have sz : ∀ b ∈ fp, b < s2.heap.objs.size := fun b hb => by
    obtain ⟨o, e, _⟩ := T.obj _ _ st2 b hb
    exact Heap.lt_size e
  have f3 : ∀ b ∈ fp, FpOk X pins (upd H2 D (.lst [])) b ∧ b < s3.heap.objs.size := fun b hb => by
    have hlt := sz b hb
    refine ⟨⟨?_, (f2 b hb).2⟩, by rw [h3, Heap.size_push]; exact Nat.lt_succ_of_lt hlt⟩
    rw [upd_ne (by rw [← hD]; exact Nat.ne_of_lt hlt)]
    exact (f2 b hb).1
  have st3 : tn 0 s3.heap := T.keep _ _ _ st2 fun b _ o e => by rw [h3]; exact Heap.get?_push_of_some _ e
  have I4 := block_start I3 ok hN f3
  have pg := hg s3 (upd H2 D (.lst [])) s3.heap.objs.size (cellsFrom (s3.heap.objs.size + 1) scope.names (cloFrom X.env.cells scope.names [])) fp
  have pt := ht s3 (upd H2 D (.lst [])) s3.heap.objs.size (cellsFrom (s3.heap.objs.size + 1) scope.names (cloFrom X.env.cells scope.names [])) fp
  have pe := he s3 (upd H2 D (.lst [])) s3.heap.objs.size (cellsFrom (s3.heap.objs.size + 1) scope.names (cloFrom X.env.cells scope.names [])) fp
  show codeAny _ _ (.compStart (.ListComp elt [⟨tg, iter, ifs, 0⟩] scope pos) 0 (.ref it) (.ref D) (compEnvC scope (cellsFrom (s3.heap.objs.size + 1) scope.names (cloFrom X.env.cells scope.names [])) s3.heap.objs.size X.env)) (compPost (model X.prog X.w) X.A X.xe use Qf (.ref D) s3.heap.objs.size) { s3 with heap := pushCells (s3.heap.push { cls := .type "dict", data := .dict #[] }) scope.names }
  have nfp : ∀ b ∈ fp, (upd H2 D (.lst [])) b = none := fun b hb => (f3 b hb).1.1
  generalize hce : compEnvC scope (cellsFrom (s3.heap.objs.size + 1) scope.names (cloFrom X.env.cells scope.names [])) s3.heap.objs.size X.env = ce at I4 pg pt pe ⊢
  have cL : ce.locals = s3.heap.objs.size := by subst hce; rfl
  generalize hH3 : upd H2 D (.lst []) = H3 at I3 I4 pg pt pe w0 nfp f3
  generalize hs4 : ({ s3 with heap := pushCells (s3.heap.push { cls := .type "dict", data := .dict #[] }) scope.names } : Shared) = s4 at I4 ⊢
  have st4 : tn 0 s4.heap := T.keep _ _ _ st3 fun b _ o e => by rw [← hs4]; exact pushCells_keeps _ _ _ _ (Heap.get?_push_of_some _ e)
  have stat : ∀ {σ' : L2.St} {H' : Hp} {s' : Shared}, Inv (X.blk s3 H3 scope ce fp) [] σ' H' s' → (∀ b ∈ fp, H' b = none) → ∀ b ∈ fp, FpOk (X.blk s3 H3 scope ce fp) [] H' b := fun {σ' H' s'} I' hn b hb =>
    ⟨hn b hb, (I'.ok.exf b hb).1, I'.ok.exfs b hb, .inl hb, fun x c e => (I'.ok.exf b hb).2 x c e, fun p hp => absurd (show p ∈ ([] : List (Addr × Obj)) ++ [] from hp) (by simp)⟩
  have loop : codeAny (model X.prog X.w) X.A (.compLoop (.ListComp elt [⟨tg, iter, ifs, 0⟩] scope pos) 0 (.ref it) (.ref D) ce) (compPost (model X.prog X.w) X.A X.xe use Qf (.ref D) s3.heap.objs.size) s4 := by
    refine compLoop_any (fun n s' => ∃ i H', Inv (X.blk s3 H3 scope ce fp) [] (wipe σ (own.map (·.2))) H' s' ∧ tn i s'.heap ∧ (∀ b ∈ fp, H' b = none) ∧ W i n H') ?_ m0 ⟨0, H3, I4, st4, nfp, w0⟩
    rintro n s5 ⟨i, H5, I5, st5, n5, w5⟩
    rcases turn i n H5 w5 with ⟨stop, qq⟩ | ⟨go, Nx, hNx, step⟩
    · have td := T.done (X.blk s3 H3 scope ce fp) rfl rfl rfl hh i [] s5 _ H5 (fun _ _ => False) I5 (stat I5 n5) st5 stop.1 stop.2
      refine thnF td fun r s6 ⟨hr, I6⟩ => ?_
      subst hr
      -- back in the def's context
      have I7 : Inv X pins σ H5 s6 := I3.call' (ch := fp) I6.os I6.base I6.hok I6.bare fun b hb => ⟨(f3 b hb).1.2.2.2.1, (f3 b hb).1.2.1, (f3 b hb).1.2.2.2.2.1, (f3 b hb).1.2.2.2.2.2⟩
      have nC : H5 s3.heap.objs.size = none := by
        have z : H5 ce.locals = none := I6.free
        rw [cL] at z
        exact z
      obtain ⟨m, hn, _⟩ := I6.loc
      have hn : s6.heap.Ns ce.locals m := hn
      rw [cL] at hn
      exact hRR D s3.heap.objs.size s6 m H5 I7 qq hn (I3.fpOk (Nat.le_refl _) nC)
    · have ti := T.item (X.blk s3 H3 scope ce fp) rfl rfl rfl i [] s5 _ H5 (fun _ _ => False) I5 (stat I5 n5) st5 go.1
      refine thnF ti fun r s6 ⟨u, hr, h6⟩ => ?_
      subst hr
      refine thnF h6 fun _ s7 ⟨x, H7, I7, r7, y7, st7, n7⟩ => ?_
      have I7' := I7.pinned (stat I7 n7) (T.obj _ _ st7)
      refine thnF (pg.run _ s7 _ H7 x u _ I7' (T.has _ _ _ _ y7 go.2) r7 (step x H7 ⟨y7, T.has _ _ _ _ y7 go.2⟩)) fun _ s8 ⟨σ8, H8, I8, hw8, q8⟩ => ?_
      refine thnF (pt.run _ s8 σ8 H8 _ I8 q8) fun b s9 ⟨H9, I9, q9⟩ => ?_
      -- the turn's end
      have fin : ∀ {s' : Shared} {H' : Hp}, Inv (X.blk s3 H3 scope ce fp) ([] ++ pinsAt fp s7.heap) σ8 H' s' → Nx H' → ∃ m, m < n ∧ ∃ i H', Inv (X.blk s3 H3 scope ce fp) [] (wipe σ (own.map (·.2))) H' s' ∧ tn i s'.heap ∧ (∀ b ∈ fp, H' b = none) ∧ W i m H' := fun {s' H'} I' nx => by
        obtain ⟨m', hm, w'⟩ := hNx H' nx
        have pin' : ∀ b ∈ fp, ∀ o, s7.heap.get? b = some o → s'.heap.get? b = some o ∧ H' b = none := fun b hb o e =>
          let z := I'.pin (b, o) (List.mem_append_right _ (List.mem_append_right _ (mem_pinsAt hb e)))
          ⟨z.1, z.2.1⟩
        have hl : (wipe σ (own.map (·.2))).length = σ8.length := by rw [← hw8, wipe_length]
        refine ⟨m', hm, i + 1, H', (I'.unpinned (pins := [])).weak hl (fun j v e => ?_), T.keep _ _ _ st7 fun b hb o e => (pin' b hb o e).1, fun b hb => ?_, w'⟩
        · rw [← hw8] at e
          exact (wipe_some e).1
        · obtain ⟨o, e, _⟩ := T.obj _ _ st7 b hb
          exact (pin' b hb o e).2
      cases b with
      | false =>
        simp only [Bool.false_eq_true, if_false] at q9 ⊢
        exact fin I9 q9
      | true =>
        simp only [if_true] at q9 ⊢
        refine thnF (pe.run _ s9 σ8 H9 _ I9 q9) fun z s10 ⟨yv, H10, I10, r10, acc, hD10, hz10, nx⟩ => ?_
        exact app_ok (X := X.blk s3 H3 scope ce fp) I10 hD10 hz10 r10 fun s11 I11 => fin I11 nx
  exact codeAny_compStart_list loop (T.self X.A 0 _ _ _ st4 loop)
/-- as a value -/
theorem pe_lcH {C1 e1 : Addr} {elt tg iter : Expr} {ifs : List Expr} {scope : Scope} {own : List (Str × Nat)} {pos : Pos} {wi : TI} {g : TG} {tt : TT} {te : TE} (hh : X.A.handled = some (.ref e1)) (hN : X.N.Nodup) (hi : PIH X tg iter wi C1 e1) (ok : BlkOk X.N X.env.scope scope own)
    (hg : ∀ (s : Shared) (H : Hp) (C : Addr) (cl : List (Str × Addr)) (fp : List Addr), PGH (X.blk s H scope (compEnvC scope cl C X.env) fp) tg g C1 e1) (ht : ∀ (s : Shared) (H : Hp) (C : Addr) (cl : List (Str × Addr)) (fp : List Addr), PTs (X.blk s H scope (compEnvC scope cl C X.env) fp) ifs tt)
    (he : ∀ (s : Shared) (H : Hp) (C : Addr) (cl : List (Str × Addr)) (fp : List Addr), PE (X.blk s H scope (compEnvC scope cl C X.env) fp) elt te) (hs : ∀ x, foldedSetIterable iter X.env x = pure x := by intro _; rfl) :
    PE X (.ListComp elt [⟨tg, iter, ifs, 0⟩] scope pos) (tLc wi g tt te (own.map (·.2))) := by
  refine ⟨fun pins s σ H Q I h => ?_⟩
  rw [eval_ListComp]
  refine lc_coreH hh hN I hi ok hg ht he hs h fun D C s' m H' I' q hn f => ⟨m, hn, fun h'' sb => ?_⟩
  obtain ⟨f0, f1, f2, f3, f4, f5⟩ := f
  exact ⟨.ref D, H', I'.turned (t' := s'.toks) (fun b o hb e => (sb.2 b hb).trans e) f0 f1 f3 f4 f5, rfl, q⟩
end
def iZipH (K : PySem.W.Frag) (C e : Addr) (ta : TA) : TI := fun σ H R => ta σ H fun vs H1 => ∃ a b xs ys, vs = [.ref a, .ref b] ∧ SqL K H1 a xs ∧ SqL K H1 b ys ∧ R (ItH (Itz K a b) C e) H1
theorem pi_zipH {X : Cx} {e e2 : Expr} {ta : TA} {p pos tpos : Pos} {elts : List Expr} {kk : Nat} {C1 e1 : Addr} (hg : Gl X "zip") (hm : X.mg "zip" = none) (ha : PA X [e, e2] ta)
    (hs : starEach [e, e2] X.env = (false, eval e X.env) :: starEach [e2] X.env := by rfl) (hpl : (backTo pos (starEach [e2] X.env)).any (·.1) = false := by rfl) :
    PIH X (.Tuple elts kk tpos) (.Call (.Name "zip" p) [e, e2] [] pos) (iZipH X.K C1 e1 ta) C1 e1 := by
  refine ⟨fun pins s σ H R I h => ?_⟩
  refine Call_ (ld_blt I hg hm PyProof.Rows.boot_zip (PyProof.Rows.callWith_type1 (thn (ha.run pos pins s σ H _ I h) fun us s1 ⟨vs, H1, I1, r1, q1⟩ => ?_) hs hpl))
  obtain ⟨a, b, xs, ys, ex, hqx, hqy, q⟩ := q1
  subst ex
  obtain ⟨u1, u2, rfl, r, r'⟩ := vals2 r1
  cases r
  cases r'
  have fresh5 : ∀ c, c ∈ [s1.heap.objs.size + 4, s1.heap.objs.size + 2, s1.heap.objs.size + 3, s1.heap.objs.size, s1.heap.objs.size + 1] → FpOk X pins H1 c := fun c hcm => by
    have e' : c = s1.heap.objs.size + 4 ∨ c = s1.heap.objs.size + 2 ∨ c = s1.heap.objs.size + 3 ∨ c = s1.heap.objs.size ∨ c = s1.heap.objs.size + 1 := by simpa using hcm
    have hle : s1.heap.objs.size ≤ c := by
      rcases e' with z | z | z | z | z
      · rw [z]; exact Nat.le_add_right _ _
      · rw [z]; exact Nat.le_add_right _ _
      · rw [z]; exact Nat.le_add_right _ _
      · rw [z]; exact Nat.le_refl _
      · rw [z]; exact Nat.le_add_right _ _
    exact I1.fpOk hle (I1.hok.fresh hle)
  obtain ⟨its, rv, p1, _⟩ := I1.list hqx
  obtain ⟨its2, rv2, p2, _⟩ := I1.list hqy
  refine call_zip_2 p1.isList p2.isList fun h' hz hTI hTO h1 h2 hsz hk => wpAny_pyIter_zip hz ?_
  have I2 : Inv X pins σ H1 { s1 with heap := h' } := I1.kept (t' := s1.toks) hk
  exact ⟨s1.heap.objs.size + 4, [s1.heap.objs.size + 4, s1.heap.objs.size + 2, s1.heap.objs.size + 3, s1.heap.objs.size, s1.heap.objs.size + 1], _, _, H1, rfl, I2, turn_zipH (PySem.W.ktu_apart s1.heap.objs.size a b p1.lt p2.lt), ⟨hz, hTI, ⟨_, _, hTO⟩, h1, h2⟩, fresh5, q⟩
theorem WalkD.hot {K : PySem.W.Frag} {b : Bool} {F : Hp} {J : It} {items : List PyData} {C e : Addr} (w : WalkD K b F J items) (hF : F e = some (XC C e)) : WalkD K b F (ItH J C e) items := by
  obtain ⟨G, Y, wk, hG, hY⟩ := w
  exact ⟨fun H => G H ∧ H e = some (XC C e), Y, ⟨fun i H hi q => ⟨wk.goes i H hi q.1, q.2⟩, fun H q => ⟨wk.stops H q.1, q.2⟩, fun i H x H' hi q y => wk.yields i H x H' hi q.1 y.1⟩, fun H e => ⟨hG H e, e _ _ hF⟩, hY⟩
/-- the caught one is fixed -/
def HotZ (X : Cx) (Z : Zx T) : Prop := ∃ e C, X.A.handled = some (.ref e) ∧ Z.F0 e = some (XC C e)
def zipLQ (ds : List PyData) (K : List PyData → Prop) : Prop := match ds with
  | [.list xs, .list ys] => At (zipD xs ys) K
  | _ => False
theorem q_zipL {xs ys : List PyData} {K : List PyData → Prop} : zipLQ [.list xs, .list ys] K = K (zipD xs ys) := At.eq
section
variable {X : Cx} {a b : Expr} {was : DA} {pos : Pos}
theorem izipH {elts : List Expr} {kk : Nat} {tpos p : Pos} {C e : Addr} (hZ : Z.F0 e = some (XC C e)) (hm : X.mg "zip" = none) (ha : PA X [a, b] (liftA X.K Z was)) (hg : Gl X "zip" := by rfl) (hs : starEach [a, b] X.env = (false, eval a X.env) :: starEach [b] X.env := by rfl)
    (hpl : (backTo pos (starEach [b] X.env)).any (·.1) = false := by rfl) : PIH X (.Tuple elts kk tpos) (.Call (.Name "zip" p) [a, b] [] pos) (liftI X.K Z true (dIt zipLQ was)) C e := by
  refine ⟨fun pins s σ H R I ⟨g, F, env, P, k, w, q⟩ => (pi_zipH hg hm ha hs hpl).run pins s σ H R I ⟨g, F, env, _, k, w, fun ds env1 vs F1 H1 p e1 k1 r1 => ?_⟩⟩
  unfold zipLQ at p
  split at p
  · obtain ⟨v, u, rfl, r2, r3⟩ := r1.inv2
    obtain ⟨a, us, rfl, h1, h2⟩ := r2.inv_lst
    obtain ⟨b, ws, rfl, h3, h4⟩ := r3.inv_lst
    exact ⟨a, b, us, ws, rfl, (h1.mono k1.fh).sq, (h3.mono k1.fh).sq, q _ env1 _ F1 H1 p.out e1 k1 ((walkD_zipL h1 h3 h2 h4).hot (k1.oldF.1 _ _ hZ))⟩
  · exact p.elim
end
section
variable {X : Cx} {elt tg iter : Expr} {ifs : List Expr} {scope : Scope} {own : List (Str × Nat)} {pos : Pos} {wi : DI} {t : CT} {c : DT} {we : DE} {m : Nat} {I S : Type} {dec : List SD → Option (I × S)} {emb : I → S → List SD} {qb : PyData → I → S → (I → S → Prop) → (PyData → I → S → Prop) → Prop}
/-- [elt for tg in zip(..) if ..] while a refusal is handled -/
theorem dlcH (own : List (Str × Nat)) (t : CT) (hot : HotZ X Z) (hde : ∀ env i s, dec env = some (i, s) → env = emb i s) (hN : X.N.Nodup) (hi : ∀ {C e : Addr}, Z.F0 e = some (XC C e) → PIH X tg iter (liftI X.K Z t.isT wi) C e) (ok : BlkOk X.N X.env.scope scope own)
    (hg : ∀ (C1 e1 : Addr) (s : Shared) (H : Hp) (C : Addr) (cl : List (Str × Addr)) (fp : List Addr), X.A.handled = some (.ref e1) → PGH (X.blk s H scope (compEnvC scope cl C X.env) fp) tg (t.g X.K) C1 e1) (ht : ∀ (s : Shared) (H : Hp) (C : Addr) (cl : List (Str × Addr)) (fp : List Addr), PTs (X.blk s H scope (compEnvC scope cl C X.env) fp) ifs (liftT X.K Z c))
    (he : ∀ (s : Shared) (H : Hp) (C : Addr) (cl : List (Str × Addr)) (fp : List Addr), PE (X.blk s H scope (compEnvC scope cl C X.env) fp) elt (liftE X.K Z we)) (hq : LcHyp dec emb qb t c we) (hsl : t.slots = own.map (·.2) := by rfl) (hs : ∀ x, foldedSetIterable iter X.env x = pure x := by intro _; rfl) :
    PE X (.ListComp elt [⟨tg, iter, ifs, 0⟩] scope pos) (liftX X.K Z (dLcQ dec emb qb wi t)) := by
  obtain ⟨e, C, hh, hF⟩ := hot
  refine PE.of (pe_lcH (C1 := C) hh hN (hi hF) ok (fun s H C' cl fp => hg C e s H C' cl fp hh) ht he hs) fun σ H Q h => ?_
  have h2 := lift_lc hde hq h
  rw [hsl] at h2
  exact h2
end
end DL

namespace DL
variable {T : List (PySem.Addr × PySem.Str)} {Z : Zx T}
open PySem PySem.Spec PyProof.Rows L2
open Evl (Ex)
section
variable {X : Cx} {m i : Nat} {pos pos' np : Pos} {n : Str} {body suite : List Stmt} {b₀ : Stmt} {wb : RD → DS} {ws : DS}
/-- a refusal of the body lands in the suite -/
theorem stryH (i : Nat) (hPE : X.mg "PrizeError" = some (.ref (He.ga X.K "PrizeError"))) (hN : X.N.Nodup)
    (hb : ∀ {Z' : Zx T} (Ed : RD) (pn : List (Addr × Obj)) (xe : Value → Shared → Prop), L2N.Takes (X.tr pn xe) (liftW X.K Z' Ed) → PassesOwn (model X.prog X.w) X.A X.env xe → PSs (X.tr pn xe) body (liftS X.K Z' m (wb Ed)))
    (hsu : ∀ (F' Pr' : Hp) (a : Addr) (pn : List (Addr × Obj)), HotZ (X.suite a pn) (tryZ Z F' Pr') → PSs (X.suite a pn) (b₀ :: suite) (liftS X.K (tryZ Z F' Pr') m ws))
    (hs : X.stack = X.env :: X.outer := by rfl) (hf : X.env.frame = some X.env.locals := by rfl) (hex : X.ex = [] := by rfl) (hi : X.N[i]? = some n := by rfl) (hln : X.env.kindOf n = some .local := by rfl) (hgl : Gl X "PrizeError" := by rfl) :
    PS X (.Try body [.ExceptHandler (some (.Name "PrizeError" np)) (some n) (b₀ :: suite) pos'] [] [] pos) (liftS X.K Z m (dTry i wb ws)) := by
  refine ⟨fun pins s σ H D I ⟨g, F, env, P, k, w, q⟩ => ?_⟩
  have ok := I.ok
  have hfr : X.A.frames = some (X.env :: X.outer) := ok.frames.trans (congrArg some hs)
  let Ed : RD := fun c env1 => bIf (noPar env1 i) (ws (goneEnds i P) (env1.set i (.dat (exD c)))) False
  let hd : List ExceptHandler := [.ExceptHandler (some (.Name "PrizeError" np)) (some n) (b₀ :: suite) pos']
  let xe : Value → Shared → Prop := fun e s1 => wpAny (model X.prog X.w) X.A (noteFrame e X.env) (fun _ s2 => wpAny (model X.prog X.w) X.A (setFlight e none) (fun _ s3 => wpAny (model X.prog X.w) X.A (handleBy e X.env hd) (SP X pins D) X.xe s3) X.xe s2) X.xe s1
  have tk : L2N.Takes (X.tr (X.pn ++ pins) xe) (liftW X.K (tryZ Z F g.Pr) Ed) := by
    intro u s' xx
    obtain ⟨x, B, sI, pins', σ1, H1, cls, d, rfl, J0, nb, up, sky, na, os, ag, c, rfl, rfl, xc, g2, F2, env2, k2, hE⟩ := xx
    have J : Inv X pins σ1 H1 sI := J0.ofTry ok
    obtain ⟨hnp, hE⟩ := bIf_and hE
    obtain ⟨eF, k3⟩ := k.ofTry k2
    have sky2 : Sky B (X.env :: X.outer) x (L2N.Zn (.ref (He.ga X.K c)) none) X.env.locals s'.heap := hs ▸ sky
    show wpAny (model X.prog X.w) X.A (noteFrame (.ref x) X.env) _ _ _
    refine L2N.Sky.land L2N.Zn.steady hfr hf sky2 fun h3 fl3 up3 => ?_
    have J3 : Inv X pins σ1 H1 { s' with heap := h3 } := J.landed nb fl3.1 (up.trans up3) os ag
    obtain ⟨o3, v3, g3, z3, f3⟩ := fl3.there
    have nfr : x ∉ frs (X.env :: X.outer) := fun hm => by
      obtain ⟨_, o, e1, e2⟩ := fl3.2.2.1.mem hm
      rw [g3] at e1
      cases e1
      exact e2 _ f3
    have nL : x ≠ X.env.locals := fun z => nfr (List.mem_filterMap.mpr ⟨_, List.mem_cons_self .., hf.trans (congrArg some z.symm)⟩)
    have nF : x ∉ X.fs := fun hm => by
      obtain ⟨e, h1, h2⟩ := List.mem_filterMap.mp hm
      exact nfr (List.mem_filterMap.mpr ⟨e, List.mem_cons_of_mem _ h1, h2⟩)
    have nI : sI.heap.get? x = none := by
      cases z : sI.heap.get? x with
      | none => rfl
      | some o =>
        have := nb x o z (by rw [hs]; exact nfr)
        rw [fl3.2.1] at this
        cases this
    have n0 : X.s_0.heap.get? x = none := by
      cases z : X.s_0.heap.get? x with
      | none => rfl
      | some o =>
        obtain ⟨o', e'⟩ := J.base.there x o z (by rw [hex]; simp)
        rw [nI] at e'
        cases e'
    have npn : ∀ r ∈ X.pn ++ pins, r.1 ≠ x := fun r hr z => by
      have := (J.pin r hr).1
      rw [z, nI] at this
      cases this
    have S3 := J3.suite g3 f3 na nL nF
    refine wpAny_handleBy_cons (codeAny_handlers_test ?_) (by intro q; cases q)
    have kind : PySem.W.Looks (model X.prog X.w) h3 (typeOf (.ref x)) (.ref (He.ga X.K c)) := fun _ _ _ _ kk z => wpAny_typeOf_ref (kk _ _ g3) (by rw [z3.1]; exact z)
    refine ld_glob (X := X.suite x ((x, o3) :: (X.pn ++ pins))) S3 hgl hPE ((PySem.W.exm_one J3.kIn kind xc.exm).here ?_)
    refine codeAny_handlers_suite_as (HandSPX.lands_againZ fl3 fun h4 fl4 up4 => ?_)
    have J4 : Inv X pins σ1 H1 { s' with heap := h4 } := J.landed nb fl4.1 ((up.trans up3).trans up4) os ag
    obtain ⟨o4, v4, g4, z4, f4⟩ := fl4.there
    have S4 := Inv.caught J4 hex n0 npn g4 z4 f4 na nL
    refine store_ok (X := X.suite x (X.pn ++ pins)) (v := .ref x) S4 hN hi (.inl hln) rfl (fun s5 S5 => ?_) (.inr hln)
    have ka : Ok X.K g (upd F2 x (.ext (ExcAt (He.ga X.K c) x))) env2 σ1 (upd H1 x (.ext (ExcAt (He.ga X.K c) x))) := k3.alloc na
    have kb := ka.setD (d := exD c) (v := .ref x) (noPar_of hnp) (.exc upd_same xc)
    have eF2 : Ex F (upd F2 x (.ext (ExcAt (He.ga X.K c) x))) := eF.trans (Ex.new (fnone k3.fh na))
    refine wpAny_mono ((hsu (upd F2 x (.ext (ExcAt (He.ga X.K c) x))) g.Pr x (X.pn ++ pins) ⟨x, He.ga X.K c, rfl, upd_same⟩).run [] s5 _ _ (goneD i D) S5 ⟨tryG g _, _, _, _, kb.inTry, hE, .mk4 (Ends4.inTry kb (q.ex eF2).four.gone) rfl⟩) (fun fl s6 r => ?_) (fun _ _ z => z.elim)
    match fl, r with
    | .next, ⟨_, _, S6, q6⟩ => exact gone_ok (Inv.released S6 ok) hN hi hln fun s7 J7 => ⟨_, _, J7, q6⟩
    | .brk, ⟨_, _, S6, q6⟩ => exact gone_ok (Inv.released S6 ok) hN hi hln fun s7 J7 => ⟨_, _, J7, q6⟩
    | .cont, ⟨_, _, S6, q6⟩ => exact gone_ok (Inv.released S6 ok) hN hi hln fun s7 J7 => ⟨_, _, J7, q6⟩
    | .ret u, ⟨_, _, _, S6, r6, q6⟩ => exact gone_ok (Inv.released S6 ok) hN hi hln fun s7 J7 => ⟨_, _, _, J7, r6, q6⟩
  refine wpAny_Try_except (wpAny_mono ((hb Ed (X.pn ++ pins) xe tk PassesOwn.looking).run [] s σ H D (I.toTry _) ⟨tryG g F, F, env, _, k.inTry, w, .mk4 (Ends4.inTry k q.four) rfl⟩) (fun fl s1 r => ?_) fun e s1 z => z)
  match fl, r with
  | .next, ⟨_, _, J, q1⟩ => exact wpAny_execs_nil ⟨_, _, J.ofTry ok, q1⟩
  | .brk, ⟨_, _, J, q1⟩ => exact ⟨_, _, J.ofTry ok, q1⟩
  | .cont, ⟨_, _, J, q1⟩ => exact ⟨_, _, J.ofTry ok, q1⟩
  | .ret u, ⟨_, _, _, J, r1, q1⟩ => exact ⟨_, _, _, J.ofTry ok, r1, q1⟩
end
/-- the caught one is fixed at the call -/
def HotF (A : Around) (F : Hp) : Prop := ∃ e C, A.handled = some (.ref e) ∧ F e = some (XC C e)
def spDH (A : Around) (T : List (Addr × Str)) (K : PySem.W.Frag) (S : DSp) (vs : List V) (H : Hp) (Q : VK) : Prop := ∃ (F : Hp) (as : List SD) (P : SD → List SD → Prop), HotF A F ∧ ArgsOk T K F H vs as ∧ S as P ∧
  ∀ r as' v F' H', P r as' → PostOk T K F H vs as F' H' as' v r → Q v H'
/-- as FnG, while a refusal is handled -/
structure FnC (P : Program) (w : World) (K : PySem.W.Frag) (mg : Str → Option Value) (base : Heap) (T : List (Addr × Str)) (k : Nat) (f : Addr) (fd : FuncData) (ps : List Str) (S : DSp) : Prop where
  len : ∀ as Q, S as Q → as.length = ps.length
  go : ∀ (A : Around) (outer : List Env) (s : Shared) (H : Hp) (args : Args) (us : List Value) (vs : List V) (Q : VK), L2H.RoomH k A → A.guards = some [] → Env0 P w K mg base A outer s H →
    BindsTo s fd args (ps.zip us) → Vals vs us → spDH A T K S vs H Q → codeAny (model P w) A (.call (.ref f) args) (CR CX0 outer P w H s Q E0) s
structure DnC (P : Program) (w : World) (K : PySem.W.Frag) (mg : Str → Option Value) (base : Heap) (T : List (Addr × Str)) (x : Str) (k : Nat) (ps : List Str) (S : DSp) : Prop where
  ex : ∃ fd, FnC P w K mg base T k (He.ga K x) fd ps S ∧ Binds K fd ps []
  glo : mg x = some (.ref (He.ga K x))
  kp : PySem.W.keepIn K (.ref (He.ga K x)) = true
section
variable {P : Program} {w : World} {K : PySem.W.Frag} {mg : Str → Option Value} {base : Heap}
/-- a def of the text, by its body read as data, whatever is handled -/
theorem dfnC (m : Nat) {x qual : Str} {st : Stmt} {f : Addr} {fd : FuncData} {N ps : List Str} {k : Nat} {S : DSp} (Fn : Fun K x qual st f fd) (sc : FnScope N ps (defScope st)) (len : ∀ as Q, S as Q → as.length = ps.length) (cels : CelsIn m S)
    (hbody : ∀ {Z : Zx T} (cdv : Value) (A : Around) (outer : List Env) (s : Shared) (H : Hp) (p : Addr × Obj), HotZ (L2H.cxH CX0 P w K mg base N qual (defScope st) f cdv A outer s H E0 p).nox Z → L2H.RoomH k (A.deeper (envOfC qual (defScope st) s.heap.objs.size f cdv)) → (A.deeper (envOfC qual (defScope st) s.heap.objs.size f cdv)).guards = some [] →
      ∃ t : DS, PSs (L2H.cxH CX0 P w K mg base N qual (defScope st) f cdv A outer s H E0 p).nox (defBody st) (liftS K Z m t) ∧
        ∀ as Q, S as Q → t (defEnds m Q) (as ++ List.replicate (N.length - ps.length) .un)) : FnC P w K mg base T (k + 1) f fd ps S := by
  obtain ⟨oc, od, kV, doc, pm, an, cdv, ct, osl, rfl, lk, hcd⟩ := Fn.ex
  refine ⟨len, fun A outer s H args us vs Q hr hg e0 hb rv ⟨F0, as, PP, hot, ha, hS, hQ⟩ => ?_⟩
  have hl : vs.length = ps.length := ha.len.symm.trans (len as PP hS)
  have hpl : ps.length ≤ N.length := by
    have := congrArg List.length sc.pre
    rw [List.length_take] at this
    omega
  have KX : K.In s.heap := e0.mod.kin.keeps fun b o e => (e0.bs b o e).1
  -- the def's own object is known and out of the way
  have inB := e0.mod.kin _ _ lk
  have pin : L2H.PinOk outer H s (f, _) := ⟨(e0.bs f _ inB).1, (e0.bs f _ inB).2, fun hm => (by
    have z := (e0.funs.mem hm).1
    rw [inB] at z
    cases z), fun v z => by cases z⟩
  refine codeAny_call_function hr.depth (KX _ _ lk) rfl sc.co sc.gen rfl (PySem.W.codeRec_of KX hcd) (hb _ _ _ _ (wpAny_newFunctionEnv_cells sc.kind (fun ⟨n, v⟩ hy => ?_) fun env he s1 x => ?_))
  · rcases sc.par n (List.of_mem_zip hy).1 with q | q
    · exact .inl q
    · exact .inr ⟨q, PySem.W.cellsFrom_some _ _ _ (.inl q)⟩
  · subst he
    obtain ⟨t, ht, hq⟩ := hbody (Z := entryZ T P w F0 H vs as) cdv A outer s H (f, _) hot (hr.deeper _) hg
    have I := L2H.inv_startH (E := E0) (CX := CX0) (mg := mg) (base := base) sc pin e0 hl rv x
    refine ⟨(e0.mod.nolimit.keeps fun b o e => (e0.bs b o e).1).keeps x.toInCall.keep, codeAny_func (wpAny_mono (ht.nox.run [] s1 (start N vs) H { nx := fun _ H' => Q .non H', rt := Q } I ?_) (fun fl s' hs => ?_) fun e s' hs => hs)⟩
    · have al : as.length = ps.length := len as PP hS
      refine ⟨entryG T P w F0 H vs as, F0, _, _, entry_ok ha al hpl, hq as PP hS, ?_⟩
      exact .mk4 (.mk (fun env' σ' F' H' p _ k' => hQ _ _ _ _ _ p (post_of k' (cels _ _ hS) .non)) (fun _ _ _ _ p => p.elim) (fun _ _ _ _ p => p.elim) (fun r env' v σ' F' H' p _ k' r' => hQ _ _ _ _ _ p (post_of k' (cels _ _ hS) r'))) rfl
    · match fl, hs with
      | .ret u, ⟨v, σ', H', J, r, q⟩ => exact ⟨v, H', J.os, J.bare, J.base, J.hok, r, q⟩
      | .next, ⟨σ', H', J, q⟩ => exact ⟨V.non, H', J.os, J.bare, J.base, J.hok, rfl, q⟩
      | .brk, ⟨_, _, _, q⟩ => exact q.elim
      | .cont, ⟨_, _, _, q⟩ => exact q.elim
end
section
variable {X : Cx} {k : Nat} {f : Addr} {fd : FuncData} {ps : List Str} {S : DSp} {x : Str} {p pos : Pos} {e : Expr} {es : List Expr} {was : DA}
/-- f(..) within a suite -/
theorem dcnH (hot : HotZ X Z) (D : DnC X.prog X.w X.K X.mg X.base T x k ps S) (hr : L2H.RoomH k X.A) (hA : X.A.guards = some [])
    (ha : PA X (e :: es) (liftA X.K Z was)) (hg : Gl X x := by rfl) (hdb : (x == ("__debug__" : Str)) = false := by decide)
    (he : starEach (e :: es) X.env = (false, eval e X.env) :: starEach es X.env := by rfl) (hpl : (backTo pos (starEach es X.env)).any (·.1) = false := by rfl) : PE X (.Call (.Name x p) (e :: es) [] pos) (liftX X.K Z (dCall S was)) := by
  obtain ⟨fd, G, hb⟩ := D.ex
  have go : ∀ {pins : List (Addr × Obj)} {σ : L2.St} {H : Hp} {s : Shared} {Q : VK} {us : List Value} {vs : List V}, Inv X pins σ H s → Vals vs us → spDH X.A T X.K S vs H Q → wpAny (model X.prog X.w) X.A (call (.ref (He.ga X.K x)) us) (EP X pins σ Q) X.xe s := fun {pins σ H s Q us vs} I r h => by
    obtain ⟨F0, as, P, _, a1, a2, a3⟩ := id h
    have hl : (us ++ ([] : List Value)).length = ps.length := by rw [List.append_nil, ← r.length, ← a1.len]; exact G.len _ _ a2
    have hbb := hb s us I.kIn hl
    rw [List.append_nil] at hbb
    refine wpAny_call (codeAny_mono (G.go X.A X.stack s H ⟨us, []⟩ us vs Q hr hA I.env0 hbb r h) fun res s' hq => ?_)
    match res, hq with
    | .error e, hq => exact hq.elim
    | .ok (.ret u), hq => exact I.after hq
    | .ok .next, hq => exact hq.elim
    | .ok .brk, hq => exact hq.elim
    | .ok .cont, hq => exact hq.elim
  refine ⟨fun pins s σ H Q I ⟨g, F, env, P, k0, w, q⟩ => wpAny_Call_Name_kw (ld_glob I hg D.glo (PySem.W.callWith_K (h₀ := X.base) I.ok.mod.kin D.kp (thn (ha.run pos pins s σ H (spDH X.A T X.K S · · Q) I ?_) fun us s1 ⟨vs, H1, I1, r, q1⟩ => ⟨I1.kIn, go I1 r q1⟩) he hpl) hdb)⟩
  refine ⟨g, F, env, _, k0, w, fun ds env1 vs F1 H1 p1 e1 k1 r1 => ⟨F1, ds.map .dat, _, hot.imp fun e h => h.imp fun C h => ⟨h.1, k1.oldF.1 _ _ h.2⟩, args_dat k1.fh k1.frame.tab k1.oldF.2 r1, p1, fun r as' v F2 H2 p2 po => ?_⟩⟩
  obtain ⟨k2, r2⟩ := k1.after no_cel po
  exact q r env1 v F2 H2 p2 (e1.trans po.ex) k2 r2
end
end DL

namespace RZ3A
open PySem RZ
open PySem.Sem (wp)
section
variable {prog : Program} {w : World} {A : Around} {E : Value → Shared → Prop} {s : Shared}
theorem zipA_next_item {b1 b2 : Bool} {z TI TO i1 i2 l1 l2 : Addr} {k1 k2 : Nat} {xs ys : Array Value} {x y a b : Value} {Q : Value → Shared → Prop} (D : ZipApart z TI TO i1 i2 l1 l2)
    (hz : IsZip s.heap z TI TO .none) (hTI : IsPair s.heap TI (.ref i1) (.ref i2)) (hTO : IsPair s.heap TO a b)
    (h1 : ItA b1 s.heap i1 l1 k1) (h2 : ItA b2 s.heap i2 l2 k2) (hl1 : SqA b1 s.heap l1 xs) (hl2 : SqA b2 s.heap l2 ys) (hx : xs[k1]? = some x) (hy : ys[k2]? = some y)
    (hQ : ∀ h', IsZip h' z TI TO (rawInt s.heap.objs.size) → IsPair h' TO x y → ItA b1 h' i1 l1 (k1 + 1) → ItA b2 h' i2 l2 (k2 + 1) → IsPair h' s.heap.objs.size x y → h'.objs.size = s.heap.objs.size + 1 →
      (∀ c o, c ≠ z → c ≠ TO → c ≠ i1 → c ≠ i2 → s.heap.get? c = some o → h'.get? c = some o) → Q (.ref s.heap.objs.size) { s with heap := h' }) :
    wpAny (model prog w) A (Builtin.«zip.__next__» ⟨[.ref z], []⟩) (fun fin s' => ∃ v, fin = .done (.ret v) ∧ Q v s') E s := by
  show wpAny _ _ (field (.ref z) 2 >>= _) _ _ _
  refine wpAny_bind (wpAny_field hz rfl (x := .bool false) rfl ?_)
  show wpAny _ _ (field (.ref z) 3 >>= _) _ _ _
  refine wpAny_bind (wpAny_field hz rfl (x := .ref TI) rfl ?_)
  refine wpAny_bind (wpAny_seqItems hTI rfl ?_)
  show wpAny _ _ (Builtin.SmallTypes.ownedTupleIsFree (.ref z) >>= _) _ _ _
  refine wpAny_bind ?_
  unfold Builtin.SmallTypes.ownedTupleIsFree
  refine wpAny_bind (wpAny_field hz rfl (x := .none) rfl (wpAny_pure ?_))
  simp only [if_true]
  refine wpAny_bind (wpAny_rule ?_)
  refine wpAny_bind (wpAny_field hz rfl (x := .ref TO) rfl ?_)
  refine wpAny_bind (wpAny_setField_rec hz (by simp) fun h₁ hz₁ hs₁ => ?_)
  replace hz₁ : IsZip h₁ z TI TO .ellipsis := hz₁
  refine wpAny_bind ?_
  simp only [List.zipIdx_cons, List.zipIdx_nil, List.forIn_cons, List.forIn_nil]

  refine wpAny_bind (wpAny_bind (wpAny_onRaise ?_))
  show wpAny _ _ (Builtin.SmallTypes.nextOf (.ref i1) >>= _) _ _ _
  refine wpAny_bind (nextA_item (h1.extBut hs₁.extBut D.i1z) (hl1.extBut hs₁.extBut D.l1z) hx fun h₂ h1₂ hs₂ => wpAny_pure ?_)
  have hTO₂ : IsPair h₂ TO a b := hs₂.extBut _ _ D.TOi1 (hs₁.extBut _ _ D.TOz hTO)
  refine wpAny_bind (wpAny_seqItems hTO₂ rfl ?_)
  refine wpAny_bind (wpAny_updateSeq_pair hTO₂ fun h₃ hTO₃ hs₃ => ?_)
  replace hTO₃ : IsPair h₃ TO x b := hTO₃
  refine wpAny_bind (wpAny_letGo (wpAny_pure ?_))

  refine wpAny_bind (wpAny_bind (wpAny_onRaise ?_))
  show wpAny _ _ (Builtin.SmallTypes.nextOf (.ref i2) >>= _) _ _ _
  refine wpAny_bind (nextA_item (((h2.extBut hs₁.extBut D.i2z).extBut hs₂.extBut D.i12.symm).extBut hs₃.extBut D.TOi2.symm)
    (((hl2.extBut hs₁.extBut D.l2z).extBut hs₂.extBut D.l2i1).extBut hs₃.extBut D.l2TO) hy fun h₄ h2₄ hs₄ => wpAny_pure ?_)
  have hTO₄ : IsPair h₄ TO x b := hs₄.extBut _ _ D.TOi2 hTO₃
  refine wpAny_bind (wpAny_seqItems hTO₄ rfl ?_)
  refine wpAny_bind (wpAny_updateSeq_pair hTO₄ fun h₅ hTO₅ hs₅ => ?_)
  replace hTO₅ : IsPair h₅ TO x y := hTO₅
  refine wpAny_bind (wpAny_letGo (wpAny_pure (wpAny_pure ?_)))

  refine wpAny_bind (wpAny_seqItems hTO₅ rfl ?_)
  refine wpAny_bind (wpAny_newTuple ?_)
  have hsz : h₅.objs.size = s.heap.objs.size := by rw [hs₅.1, hs₄.1, hs₃.1, hs₂.1, hs₁.1]
  have hz₅ : IsZip h₅ z TI TO .ellipsis := hs₅.extBut _ _ D.TOz.symm (hs₄.extBut _ _ D.i2z.symm (hs₃.extBut _ _ D.TOz.symm (hs₂.extBut _ _ D.i1z.symm hz₁)))
  have hk₅ : ∀ c o, c ≠ z → c ≠ TO → c ≠ i1 → c ≠ i2 → s.heap.get? c = some o → h₅.get? c = some o := fun c o c1 c2 c3 c4 e =>
    hs₅.extBut _ _ c2 (hs₄.extBut _ _ c4 (hs₃.extBut _ _ c2 (hs₂.extBut _ _ c3 (hs₁.extBut _ _ c1 e))))
  have h1₅ : ItA b1 h₅ i1 l1 (k1 + 1) := ((h1₂.extBut hs₃.extBut D.TOi1.symm).extBut hs₄.extBut D.i12).extBut hs₅.extBut D.TOi1.symm
  have h2₅ : ItA b2 h₅ i2 l2 (k2 + 1) := h2₄.extBut hs₅.extBut D.TOi2.symm
  have hzlt : z < h₅.objs.size := Heap.lt_size hz₅
  have hTOlt : TO < h₅.objs.size := Heap.lt_size hTO₅
  have hi1lt : i1 < h₅.objs.size := by obtain ⟨_, e, _⟩ := h1₅.obj; exact Heap.lt_size e
  have hi2lt : i2 < h₅.objs.size := by obtain ⟨_, e, _⟩ := h2₅.obj; exact Heap.lt_size e
  show wpAny _ _ (Builtin.SmallTypes.ownedTupleHandOut (.ref z) (.ref h₅.objs.size) >>= _) _ _ _
  refine wpAny_bind ?_
  unfold Builtin.SmallTypes.ownedTupleHandOut
  have hz₆ : IsZip (h₅.push { cls := .type "tuple", data := .seq #[x, y] }) z TI TO .ellipsis := Heap.get?_push_of_some _ hz₅
  refine wpAny_bind (wpAny_setField_rec hz₆ (by simp) fun h₇ hz₇ hs₇ => ?_)
  replace hz₇ : IsZip h₇ z TI TO (rawInt h₅.objs.size) := hz₇
  refine wpAny_setField_rec hz₇ (by simp) fun h₈ hz₈ hs₈ => ?_
  replace hz₈ : IsZip h₈ z TI TO (rawInt h₅.objs.size) := hz₈
  have up : ∀ c o, c ≠ z → h₅.get? c = some o → h₈.get? c = some o := fun c o c1 e => hs₈.extBut _ _ c1 (hs₇.extBut _ _ c1 (Heap.get?_push_of_some _ e))
  have hT₈ : IsPair h₈ h₅.objs.size x y := hs₈.extBut _ _ (Nat.ne_of_gt hzlt) (hs₇.extBut _ _ (Nat.ne_of_gt hzlt) (Heap.get?_push_size _ rfl))
  have hz8 : h₈.objs.size = h₅.objs.size + 1 := by rw [hs₈.1, hs₇.1, Heap.size_push]
  rw [hsz] at hz₈ hT₈ hz8
  refine wpAny_pure ⟨_, rfl, ?_⟩
  show Q (.ref h₅.objs.size) _
  rw [hsz]
  exact hQ h₈ hz₈ (up _ _ D.TOz hTO₅) (h1₅.at fun o e => up _ o D.i1z e) (h2₅.at fun o e => up _ o D.i2z e) hT₈ hz8 fun c o c1 c2 c3 c4 e => up c o c1 (hk₅ c o c1 c2 c3 c4 e)
theorem zipA_next_end {b1 b2 : Bool} {z TI TO i1 i2 l1 l2 : Addr} {k1 k2 : Nat} {xs ys : Array Value} {a b : Value} {Q : Fin → Shared → Prop} (hh : A.handled = none) (D : ZipApart z TI TO i1 i2 l1 l2)
    (hz : IsZip s.heap z TI TO .none) (hTI : IsPair s.heap TI (.ref i1) (.ref i2)) (hTO : IsPair s.heap TO a b)
    (h1 : ItA b1 s.heap i1 l1 k1) (h2 : ItA b2 s.heap i2 l2 k2) (hl1 : SqA b1 s.heap l1 xs) (hl2 : SqA b2 s.heap l2 ys) (hend : xs[k1]? = none ∨ ys[k2]? = none)
    (hE : ∀ h' e, (∀ c o, c ≠ z → c ≠ TO → c ≠ i1 → c ≠ i2 → s.heap.get? c = some o → h'.get? c = some o) → (∃ o, h'.get? e = some o ∧ o.cls = .type "StopIteration") → E (.ref e) { s with heap := h' }) :
    wpAny (model prog w) A (Builtin.«zip.__next__» ⟨[.ref z], []⟩) Q E s := by
  show wpAny _ _ (field (.ref z) 2 >>= _) _ _ _
  refine wpAny_bind (wpAny_field hz rfl (x := .bool false) rfl ?_)
  show wpAny _ _ (field (.ref z) 3 >>= _) _ _ _
  refine wpAny_bind (wpAny_field hz rfl (x := .ref TI) rfl ?_)
  refine wpAny_bind (wpAny_seqItems hTI rfl ?_)
  show wpAny _ _ (Builtin.SmallTypes.ownedTupleIsFree (.ref z) >>= _) _ _ _
  refine wpAny_bind ?_
  unfold Builtin.SmallTypes.ownedTupleIsFree
  refine wpAny_bind (wpAny_field hz rfl (x := .none) rfl (wpAny_pure ?_))
  simp only [if_true]
  refine wpAny_bind (wpAny_rule ?_)
  refine wpAny_bind (wpAny_field hz rfl (x := .ref TO) rfl ?_)
  refine wpAny_bind (wpAny_setField_rec hz (by simp) fun h₁ hz₁ hs₁ => ?_)
  replace hz₁ : IsZip h₁ z TI TO .ellipsis := hz₁
  refine wpAny_bind ?_
  simp only [List.zipIdx_cons, List.zipIdx_nil, List.forIn_cons, List.forIn_nil]
  refine wpAny_bind (wpAny_bind (wpAny_onRaise ?_))
  show wpAny _ _ (Builtin.SmallTypes.nextOf (.ref i1) >>= _) _ _ _
  cases hx : xs[k1]? with
  | none =>
    refine wpAny_bind (nextA_end hh (h1.extBut hs₁.extBut D.i1z) (hl1.extBut hs₁.extBut D.l1z) hx fun h₂ e hs₂ he => ?_)
    obtain ⟨oe, hoe, hce⟩ := he
    have hz₂ : IsZip h₂ z TI TO .ellipsis := hs₂ _ _ D.i1z.symm hz₁
    have hez : e ≠ z := fun x => by subst x; rw [hz₂] at hoe; cases hoe; simp at hce
    refine wpAny_setField_rec hz₂ (by simp) fun h₃ _ hs₃ => hE h₃ e (fun c o c1 _ c3 _ x => hs₃.extBut _ _ c1 (hs₂ _ _ c3 (hs₁.extBut _ _ c1 x))) ⟨oe, hs₃.extBut _ _ hez hoe, hce⟩
  | some x =>
    have hy : ys[k2]? = none := by rcases hend with h | h; rw [hx] at h; cases h; exact h
    refine wpAny_bind (nextA_item (h1.extBut hs₁.extBut D.i1z) (hl1.extBut hs₁.extBut D.l1z) hx fun h₂ h1₂ hs₂ => wpAny_pure ?_)
    have hTO₂ : IsPair h₂ TO a b := hs₂.extBut _ _ D.TOi1 (hs₁.extBut _ _ D.TOz hTO)
    refine wpAny_bind (wpAny_seqItems hTO₂ rfl ?_)
    refine wpAny_bind (wpAny_updateSeq_pair hTO₂ fun h₃ hTO₃ hs₃ => ?_)
    refine wpAny_bind (wpAny_letGo (wpAny_pure ?_))
    refine wpAny_bind (wpAny_bind (wpAny_onRaise ?_))
    show wpAny _ _ (Builtin.SmallTypes.nextOf (.ref i2) >>= _) _ _ _
    refine wpAny_bind (nextA_end hh (((h2.extBut hs₁.extBut D.i2z).extBut hs₂.extBut D.i12.symm).extBut hs₃.extBut D.TOi2.symm)
      (((hl2.extBut hs₁.extBut D.l2z).extBut hs₂.extBut D.l2i1).extBut hs₃.extBut D.l2TO) hy fun h₄ e hs₄ he => ?_)
    obtain ⟨oe, hoe, hce⟩ := he
    have hz₄ : IsZip h₄ z TI TO .ellipsis := hs₄ _ _ D.i2z.symm (hs₃.extBut _ _ D.TOz.symm (hs₂.extBut _ _ D.i1z.symm hz₁))
    have hez : e ≠ z := fun x => by subst x; rw [hz₄] at hoe; cases hoe; simp at hce
    refine wpAny_setField_rec hz₄ (by simp) fun h₅ _ hs₅ => hE h₅ e (fun c o c1 c2 c3 c4 x => hs₅.extBut _ _ c1 (hs₄ _ _ c4 (hs₃.extBut _ _ c2 (hs₂.extBut _ _ c3 (hs₁.extBut _ _ c1 x))))) ⟨oe, hs₅.extBut _ _ hez hoe, hce⟩
theorem pyNext_zipA_item {b1 b2 : Bool} {z TI TO i1 i2 l1 l2 : Addr} {k1 k2 : Nat} {xs ys : Array Value} {x y a b : Value} {Q : Option Value → Shared → Prop} (D : ZipApart z TI TO i1 i2 l1 l2)
    (hz : IsZip s.heap z TI TO .none) (hTI : IsPair s.heap TI (.ref i1) (.ref i2)) (hTO : IsPair s.heap TO a b)
    (h1 : ItA b1 s.heap i1 l1 k1) (h2 : ItA b2 s.heap i2 l2 k2) (hl1 : SqA b1 s.heap l1 xs) (hl2 : SqA b2 s.heap l2 ys) (hx : xs[k1]? = some x) (hy : ys[k2]? = some y)
    (hQ : ∀ h', IsZip h' z TI TO (rawInt s.heap.objs.size) → IsPair h' TO x y → ItA b1 h' i1 l1 (k1 + 1) → ItA b2 h' i2 l2 (k2 + 1) → IsPair h' s.heap.objs.size x y → h'.objs.size = s.heap.objs.size + 1 →
      (∀ c o, c ≠ z → c ≠ TO → c ≠ i1 → c ≠ i2 → s.heap.get? c = some o → h'.get? c = some o) → Q (some (.ref s.heap.objs.size)) { s with heap := h' }) :
    wpAny (model prog w) A (pyNext (.ref z)) Q E s := by
  have hT : s.TypeIs (.ref z) "zip" := ⟨_, hz, rfl⟩
  unfold pyNext
  exact wpAny_bind (wpAny_attempt (wpAny_callSpecial?_slot (name := Str.ofString "__next__") hT F.slot_zip_next
    (wpAny_call_entry F.slot_zip_next hT F.entry_zip_next
      (zipA_next_item D hz hTI hTO h1 h2 hl1 hl2 hx hy fun h' a1 a2 a3 a4 a5 a6 a7 => wpAny_pure (hQ h' a1 a2 a3 a4 a5 a6 a7)) (F.args_zip_next_1 _))))
theorem pyNext_zipA_end {b1 b2 : Bool} {z TI TO i1 i2 l1 l2 : Addr} {k1 k2 : Nat} {xs ys : Array Value} {a b : Value} {Q : Option Value → Shared → Prop} (hh : A.handled = none) (D : ZipApart z TI TO i1 i2 l1 l2)
    (hz : IsZip s.heap z TI TO .none) (hTI : IsPair s.heap TI (.ref i1) (.ref i2)) (hTO : IsPair s.heap TO a b)
    (h1 : ItA b1 s.heap i1 l1 k1) (h2 : ItA b2 s.heap i2 l2 k2) (hl1 : SqA b1 s.heap l1 xs) (hl2 : SqA b2 s.heap l2 ys) (hend : xs[k1]? = none ∨ ys[k2]? = none)
    (hQ : ∀ h', (∀ c o, c ≠ z → c ≠ TO → c ≠ i1 → c ≠ i2 → s.heap.get? c = some o → h'.get? c = some o) → Q none { s with heap := h' }) : wpAny (model prog w) A (pyNext (.ref z)) Q E s := by
  have hT : s.TypeIs (.ref z) "zip" := ⟨_, hz, rfl⟩
  unfold pyNext
  refine wpAny_bind (wpAny_attempt (wpAny_callSpecial?_slot (name := Str.ofString "__next__") hT F.slot_zip_next
    (wpAny_call_entry F.slot_zip_next hT F.entry_zip_next (zipA_next_end hh D hz hTI hTO h1 h2 hl1 hl2 hend fun h' e hk he => ?_) (F.args_zip_next_1 _))))
  obtain ⟨o, ho, hc⟩ := he
  refine wpAny_bind (wpAny_isInstance (T := "StopIteration") (b := true) ⟨o, ho, hc⟩ isSubtype_stop ?_)
  exact wpAny_pure (hQ _ hk)
end

abbrev zipAH1 (b1 b2 : Bool) (h : Heap) (l1 : Addr) : Heap := h.push (itObj b1 l1)
abbrev zipAH2 (b1 b2 : Bool) (h : Heap) (l1 l2 : Addr) : Heap := (zipAH1 b1 b2 h l1).push (itObj b2 l2)
abbrev zipAH3 (b1 b2 : Bool) (h : Heap) (l1 l2 : Addr) : Heap := (zipAH2 b1 b2 h l1 l2).push { cls := .type "tuple", data := .seq #[.ref h.objs.size, .ref (zipAH1 b1 b2 h l1).objs.size] }
abbrev zipAH4 (b1 b2 : Bool) (h : Heap) (l1 l2 : Addr) : Heap := (zipAH3 b1 b2 h l1 l2).push { cls := .type "tuple", data := .seq #[.none, .none] }
abbrev zipAH5 (b1 b2 : Bool) (h : Heap) (l1 l2 : Addr) : Heap := (zipAH4 b1 b2 h l1 l2).push { cls := .type "zip", data := .fields #[.none, .bool false, .bool false, .ref (zipAH2 b1 b2 h l1 l2).objs.size, .ref (zipAH3 b1 b2 h l1 l2).objs.size] }
theorem meets_zipA_new (b1 b2 : Bool) (l1 l2 : Addr) (xs ys : Array Value) :
    Meets (Builtin.«zip.__new__» ⟨[.type "zip", .ref l1, .ref l2], []⟩) (fun _ R s => SqA b1 s.heap l1 xs ∧ SqA b2 s.heap l2 ys ∧
      R (.ok (.ret (.ref (zipAH4 b1 b2 s.heap l1 l2).objs.size))) { s with heap := zipAH5 b1 b2 s.heap l1 l2 }) :=
  .of_wp fun prog w A R s h => by
    obtain ⟨hp, g, d, tk, os⟩ := s; obtain ⟨hl1, hl2, h⟩ := h
    have hsub := sub_zip
    have hL1 : SqA b1 (Shared.heap ⟨hp, g, d, tk, os⟩) l1 xs := hl1
    have hL2 : SqA b2 (Shared.heap ⟨zipAH1 b1 b2 hp l1, g, d, tk, os⟩) l2 ys := SqA.push hl2 _
    wp_walk using pyIterA hL1, pyIterA hL2
    exact ⟨_, rfl, h⟩
section
variable {prog : Program} {w : World} {A : Around} {E : Value → Shared → Prop} {s : Shared}

theorem call_zipA {b1 b2 : Bool} {l1 l2 : Addr} {xs ys : Array Value} {Q : Value → Shared → Prop} (hl1 : SqA b1 s.heap l1 xs) (hl2 : SqA b2 s.heap l2 ys)
    (h : ∀ h', IsZip h' (s.heap.objs.size + 4) (s.heap.objs.size + 2) (s.heap.objs.size + 3) .none → IsPair h' (s.heap.objs.size + 2) (.ref s.heap.objs.size) (.ref (s.heap.objs.size + 1)) →
      IsPair h' (s.heap.objs.size + 3) .none .none → ItA b1 h' s.heap.objs.size l1 0 → ItA b2 h' (s.heap.objs.size + 1) l2 0 → h'.objs.size = s.heap.objs.size + 5 →
      (∀ c o, s.heap.get? c = some o → h'.get? c = some o) → Q (.ref (s.heap.objs.size + 4)) { s with heap := h' }) :
    wpAny (model prog w) A (call (.type "zip") [.ref l1, .ref l2]) Q E s := by
  refine callType_new F.called_zip (by decide) (F.typeCall_zip_2 _ _) (F.newCall_zip_2 _ _) (fun obj => F.args_object_init_3 obj _ _) F.entry_zip_new
    (meets_zipA_new b1 b2 l1 l2 xs ys) ⟨hl1, hl2, ?_⟩
  have z1 : (zipAH1 b1 b2 s.heap l1).objs.size = s.heap.objs.size + 1 := Heap.size_push ..
  have z2 : (zipAH2 b1 b2 s.heap l1 l2).objs.size = s.heap.objs.size + 2 := by rw [Heap.size_push, z1]
  have z3 : (zipAH3 b1 b2 s.heap l1 l2).objs.size = s.heap.objs.size + 3 := by rw [Heap.size_push, z2]
  have z4 : (zipAH4 b1 b2 s.heap l1 l2).objs.size = s.heap.objs.size + 4 := by rw [Heap.size_push, z3]
  have z5 : (zipAH5 b1 b2 s.heap l1 l2).objs.size = s.heap.objs.size + 5 := by rw [Heap.size_push, z4]
  have g5 : (zipAH5 b1 b2 s.heap l1 l2).get? (zipAH4 b1 b2 s.heap l1 l2).objs.size = some _ := Heap.get?_push_size _ rfl
  have g4 : (zipAH5 b1 b2 s.heap l1 l2).get? (zipAH3 b1 b2 s.heap l1 l2).objs.size = some _ := Heap.get?_push_of_some _ (Heap.get?_push_size _ rfl)
  have g3 : (zipAH5 b1 b2 s.heap l1 l2).get? (zipAH2 b1 b2 s.heap l1 l2).objs.size = some _ := Heap.get?_push_of_some _ (Heap.get?_push_of_some _ (Heap.get?_push_size _ rfl))
  have g2 : (zipAH5 b1 b2 s.heap l1 l2).get? (zipAH1 b1 b2 s.heap l1).objs.size = some _ := Heap.get?_push_of_some _ (Heap.get?_push_of_some _ (Heap.get?_push_of_some _ (Heap.get?_push_size _ (itObj_live _ _))))
  have g1 : (zipAH5 b1 b2 s.heap l1 l2).get? s.heap.objs.size = some _ := Heap.get?_push_of_some _ (Heap.get?_push_of_some _ (Heap.get?_push_of_some _ (Heap.get?_push_of_some _ (Heap.get?_push_size _ (itObj_live _ _)))))
  show _ ∧ _
  rw [z2, z3, z4] at g5
  rw [z1, z2] at g3
  rw [z3] at g4
  rw [z1] at g2
  rw [z4]
  exact ⟨⟨_, g5, rfl⟩, h _ g5 g3 g4 (itObj_ok g1) (itObj_ok g2) z5 fun c o x =>
    Heap.get?_push_of_some _ (Heap.get?_push_of_some _ (Heap.get?_push_of_some _ (Heap.get?_push_of_some _ (Heap.get?_push_of_some _ x))))⟩
end
end RZ3A
namespace DL
variable {T : List (PySem.Addr × PySem.Str)} {Z : Zx T}
open PySem PySem.Spec PyProof.Rows L2 RZ3A
open Evl (Ex)
/-- the tuples at a and b as they stand at each turn, the items in new pairs -/
def ItzB (b1 b2 : Bool) (K : PySem.W.Frag) (a b : Addr) : It :=
  ⟨fun i H => ∃ (xs ys : List V) (x y : V), SqX K b1 H a xs ∧ SqX K b2 H b ys ∧ xs[i]? = some x ∧ ys[i]? = some y,
    fun i H v H' => ∃ T x y, v = .ref T ∧ H T = none ∧ H' = upd H T (.tup [x, y]) ∧ (∀ xs, SqX K b1 H a xs → xs[i]? = some x) ∧ ∀ ys, SqX K b2 H b ys → ys[i]? = some y,
    fun i H => ∃ xs ys : List V, SqX K b1 H a xs ∧ SqX K b2 H b ys ∧ (xs.length ≤ i ∨ ys.length ≤ i)⟩
theorem turn_zipB {b1 b2 : Bool} {P : Program} {w : World} {K : PySem.W.Frag} {elts : List Expr} {kk : Nat} {tpos : Pos} {a b z TI TO i1 i2 : Addr} (D : ZipApart z TI TO i1 i2 a b) :
    Turn P w K (.Tuple elts kk tpos) (ItzB b1 b2 K a b) [z, TI, TO, i1, i2] z (fun i h => IsZip h z TI TO .none ∧ IsPair h TI (.ref i1) (.ref i2) ∧ (∃ x y, IsPair h TO x y) ∧ ItA b1 h i1 a i ∧ ItA b2 h i2 b i) where
  mem := by simp
  obj := fun i h st c hc => by
    obtain ⟨hz, hTI, ⟨x, y, hTO⟩, h1, h2⟩ := st
    obtain ⟨o1, e1, d1⟩ := h1.obj
    obtain ⟨o2, e2, d2⟩ := h2.obj
    have e' : c = z ∨ c = TI ∨ c = TO ∨ c = i1 ∨ c = i2 := by simpa using hc
    rcases e' with q | q | q | q | q
    · rw [q]; exact ⟨_, hz, fun v q => nomatch q⟩
    · rw [q]; exact ⟨_, hTI, fun v q => nomatch q⟩
    · rw [q]; exact ⟨_, hTO, fun v q => nomatch q⟩
    · rw [q]; exact ⟨o1, e1, fun v q => by rw [d1] at q; cases q⟩
    · rw [q]; exact ⟨o2, e2, fun v q => by rw [d2] at q; cases q⟩
  keep := fun i h h' st k => by
    obtain ⟨hz, hTI, ⟨x, y, hTO⟩, h1, h2⟩ := st
    exact ⟨k z (by simp) _ hz, k TI (by simp) _ hTI, ⟨x, y, k TO (by simp) _ hTO⟩, h1.at fun o q => k i1 (by simp) o q, h2.at fun o q => k i2 (by simp) o q⟩
  item := by
    intro X hP hw hK hc i pins s σ H E I hf st hg
    subst hP hw hK
    obtain ⟨hz, hTI, ⟨x0, y0, hTO⟩, h1, h2⟩ := st
    obtain ⟨xs, ys, x, y, hqx, hqy, hx, hy⟩ := hg
    obtain ⟨its, rv, p, _⟩ := seqA_at I hqx
    obtain ⟨its2, rv2, p2, _⟩ := seqA_at I hqy
    obtain ⟨u, hu, ru⟩ := rv.get hx
    obtain ⟨u2, hu2, ru2⟩ := rv2.get hy
    have hzl : z < s.heap.objs.size := Heap.lt_size hz
    refine pyNext_zipA_item D hz hTI hTO h1 h2 p p2 (x := u) (y := u2) (by simpa using hu) (by simpa using hu2) fun h' z' TO' h1' h2' hT hsz hk => ?_
    refine ⟨_, rfl, wpAny_letOwnedTupleGo_zip (s := { s with heap := h' }) z' fun h'' z'' sb => ?_⟩
    have hT2 : h''.get? s.heap.objs.size = some { cls := .type "tuple", data := .seq #[u, u2] } := (sb.2 _ (Nat.ne_of_gt hzl)).trans hT
    have new : ObjOk X.prog X.w (upd H s.heap.objs.size (.tup [x, y])) h'' s.heap.objs.size (.tup [x, y]) :=
      ⟨by show 2 ≤ sizeLine; decide, [u, u2], .cons ru (.cons ru2 .nil), ⟨_, hT2, rfl, _, rfl⟩⟩
    have I1 : Inv X pins σ (upd H s.heap.objs.size (.tup [x, y])) { s with heap := h'' } :=
      I.turnedNew (t' := s.toks) (ch := [z, TI, TO, i1, i2]) (fun c o hb q => (sb.2 c (fun q' => hb (by simp [q']))).trans (hk c o (fun q' => hb (by simp [q'])) (fun q' => hb (by simp [q'])) (fun q' => hb (by simp [q'])) (fun q' => hb (by simp [q'])) q)) hf (Nat.le_refl _) new
    refine ⟨.ref s.heap.objs.size, _, I1, rfl, ⟨_, x, y, rfl, I.hok.fresh (Nat.le_refl _), rfl, fun l hl => by rw [seqA_inj I hl hqx]; exact hx, fun l hl => by rw [seqA_inj I hl hqy]; exact hy⟩, ⟨z'', ?_, ⟨u, u2, ?_⟩, ?_, ?_⟩, fun c hcm => ?_⟩
    · exact (sb.2 _ D.TIz).trans (hk _ _ D.TIz D.TITO D.TIi1 D.TIi2 hTI)
    · exact (sb.2 _ D.TOz).trans TO'
    · exact h1'.at fun o q => (sb.2 _ D.i1z).trans q
    · exact h2'.at fun o q => (sb.2 _ D.i2z).trans q
    · have hlt : c < s.heap.objs.size := by
        have e' : c = z ∨ c = TI ∨ c = TO ∨ c = i1 ∨ c = i2 := by simpa using hcm
        rcases e' with q | q | q | q | q
        · rw [q]; exact hzl
        · rw [q]; exact Heap.lt_size hTI
        · rw [q]; exact Heap.lt_size hTO
        · rw [q]; obtain ⟨_, e1, _⟩ := h1.obj; exact Heap.lt_size e1
        · rw [q]; obtain ⟨_, e2, _⟩ := h2.obj; exact Heap.lt_size e2
      rw [upd_ne (Nat.ne_of_lt hlt)]
      exact (hf c hcm).1
  done := by
    intro X hP hw hK hc i pins s σ H E I hf st hg
    subst hP hw hK
    obtain ⟨hz, hTI, ⟨x0, y0, hTO⟩, h1, h2⟩ := st
    obtain ⟨xs, ys, hqx, hqy, hend⟩ := hg
    obtain ⟨its, rv, p, _⟩ := seqA_at I hqx
    obtain ⟨its2, rv2, p2, _⟩ := seqA_at I hqy
    have l1 := rv.length
    have l2 := rv2.length
    have he : its.toArray[i]? = none ∨ its2.toArray[i]? = none := by
      rcases hend with q | q
      · exact .inl (by simp; omega)
      · exact .inr (by simp; omega)
    exact pyNext_zipA_end (I.ok.hd hc) D hz hTI hTO h1 h2 p p2 he fun h' hk => ⟨rfl, I.turnedL (t' := s.toks) (ch := [z, TI, TO, i1, i2]) (fun c o hb q =>
      hk c o (fun q' => hb (by simp [q'])) (fun q' => hb (by simp [q'])) (fun q' => hb (by simp [q'])) (fun q' => hb (by simp [q'])) q) hf⟩
  self := fun A i s Q E st h => wpAny_pyIter_zip st.1 h
def iZipB (K : PySem.W.Frag) (ta : TA) : TI := fun σ H R => ta σ H fun vs H1 => ∃ b1 b2 a b xs ys, vs = [.ref a, .ref b] ∧ SqX K b1 H1 a xs ∧ SqX K b2 H1 b ys ∧ R (ItzB b1 b2 K a b) H1
theorem pi_zipB {X : Cx} {e e2 : Expr} {ta : TA} {p pos tpos : Pos} {elts : List Expr} {kk : Nat} (hg : Gl X "zip") (hm : X.mg "zip" = none) (ha : PA X [e, e2] ta)
    (hs : starEach [e, e2] X.env = (false, eval e X.env) :: starEach [e2] X.env := by rfl) (hpl : (backTo pos (starEach [e2] X.env)).any (·.1) = false := by rfl) :
    PI X (.Tuple elts kk tpos) (.Call (.Name "zip" p) [e, e2] [] pos) (iZipB X.K ta) := by
  refine ⟨fun pins s σ H R I h => ?_⟩
  refine Call_ (ld_blt I hg hm PyProof.Rows.boot_zip (PyProof.Rows.callWith_type1 (thn (ha.run pos pins s σ H _ I h) fun us s1 ⟨vs, H1, I1, r1, q1⟩ => ?_) hs hpl))
  obtain ⟨b1, b2, a, b, xs, ys, ex, hqx, hqy, q⟩ := q1
  subst ex
  obtain ⟨u1, u2, rfl, r, r'⟩ := vals2 r1
  cases r
  cases r'
  have fresh5 : ∀ c, c ∈ [s1.heap.objs.size + 4, s1.heap.objs.size + 2, s1.heap.objs.size + 3, s1.heap.objs.size, s1.heap.objs.size + 1] → FpOk X pins H1 c := fun c hcm => by
    have e' : c = s1.heap.objs.size + 4 ∨ c = s1.heap.objs.size + 2 ∨ c = s1.heap.objs.size + 3 ∨ c = s1.heap.objs.size ∨ c = s1.heap.objs.size + 1 := by simpa using hcm
    have hle : s1.heap.objs.size ≤ c := by
      rcases e' with z | z | z | z | z
      · rw [z]; exact Nat.le_add_right _ _
      · rw [z]; exact Nat.le_add_right _ _
      · rw [z]; exact Nat.le_add_right _ _
      · rw [z]; exact Nat.le_refl _
      · rw [z]; exact Nat.le_add_right _ _
    exact I1.fpOk hle (I1.hok.fresh hle)
  obtain ⟨its, rv, p1, _⟩ := seqA_at I1 hqx
  obtain ⟨its2, rv2, p2, _⟩ := seqA_at I1 hqy
  obtain ⟨o1, ho1⟩ := p1.obj
  obtain ⟨o2, ho2⟩ := p2.obj
  refine call_zipA (show SqA b1 s1.heap a its.toArray from p1) (show SqA b2 s1.heap b its2.toArray from p2) fun h' hz hTI hTO h1 h2 hsz hk => wpAny_pyIter_zip hz ?_
  have I2 : Inv X pins σ H1 { s1 with heap := h' } := I1.kept (t' := s1.toks) hk
  exact ⟨s1.heap.objs.size + 4, [s1.heap.objs.size + 4, s1.heap.objs.size + 2, s1.heap.objs.size + 3, s1.heap.objs.size, s1.heap.objs.size + 1], _, _, H1, rfl, I2, turn_zipB (PySem.W.ktu_apart s1.heap.objs.size a b (Heap.lt_size ho1) (Heap.lt_size ho2)), ⟨hz, hTI, ⟨_, _, hTO⟩, h1, h2⟩, fresh5, q⟩
theorem walk_zipB {b1 b2 : Bool} {K : PySem.W.Frag} {a b : Addr} {xs ys : List V} : Walk (ItzB b1 b2 K a b) (min xs.length ys.length) (fun H => SqX K b1 H a xs ∧ SqX K b2 H b ys) (YPair (fun i => xs[i]?) (fun i => ys[i]?)) :=
  ⟨fun i H hi q => ⟨xs, ys, xs[i]'(by omega), ys[i]'(by omega), q.1, q.2, by simp [show i < xs.length by omega], by simp [show i < ys.length by omega]⟩,
   fun H q => ⟨xs, ys, q.1, q.2, by omega⟩,
   fun i H x H' hi q y => by
    obtain ⟨T, u, v, h1, h2, h3, h4, h5⟩ := y
    exact ⟨T, u, v, h1, h2, h3, h4 xs q.1, h5 ys q.2⟩⟩
def zip2A (ds : List PyData) (K : List PyData → Prop) : Prop := match ds with
  | [x, y] => match seqOf x, seqOf y with
    | some xs, some ys => At (zipD xs.2 ys.2) K
    | _, _ => False
  | _ => False
theorem q_zip2A {x y : PyData} {b1 b2 : Bool} {xs ys : List PyData} (h1 : seqOf x = some (b1, xs)) (h2 : seqOf y = some (b2, ys)) {K : List PyData → Prop} : zip2A [x, y] K = K (zipD xs ys) := by
  unfold zip2A
  dsimp only
  rw [h1, h2]
  exact At.eq
theorem q_zip2TL {xs ys : List PyData} {K : List PyData → Prop} : zip2A [.tuple xs, .list ys] K = K (zipD xs ys) := q_zip2A (b1 := false) (b2 := true) rfl rfl
theorem walkD_zipB {b1 b2 : Bool} {K : PySem.W.Frag} {F : Hp} {a b : Addr} {us vs : List V} {xs ys : List PyData} (h1 : ∀ F', Ex F F' → SqX K b1 F' a us) (h3 : ∀ F', Ex F F' → SqX K b2 F' b vs) (h2 : DRs K F us xs) (h4 : DRs K F vs ys) : WalkD K true F (ItzB b1 b2 K a b) (zipD xs ys) :=
  ⟨fun H => SqX K b1 H a us ∧ SqX K b2 H b vs, YPair (fun i => us[i]?) (fun i => vs[i]?), by rw [zipD_length, ← h2.length, ← h4.length]; exact walk_zipB, fun H e => ⟨h1 H e, h3 H e⟩, fun i H x H' d _ e y => yld_pair h2 h4 e y⟩
section
variable {X : Cx} {a b : Expr} {was : DA} {pos : Pos}
theorem izip2A {elts : List Expr} {kk : Nat} {tpos p : Pos} (hm : X.mg "zip" = none) (ha : PA X [a, b] (liftA X.K Z was)) (hg : Gl X "zip" := by rfl) (hs : starEach [a, b] X.env = (false, eval a X.env) :: starEach [b] X.env := by rfl)
    (hpl : (backTo pos (starEach [b] X.env)).any (·.1) = false := by rfl) : PI X (.Tuple elts kk tpos) (.Call (.Name "zip" p) [a, b] [] pos) (liftI X.K Z true (dIt zip2A was)) :=
  PI.of (pi_zipB hg hm ha hs hpl) fun σ H R ⟨g, F, env, P, k, w, q⟩ => ⟨g, F, env, _, k, w, fun ds env1 vs F1 H1 p e1 k1 r1 => by
    unfold zip2A at p
    split at p
    · split at p
      · rename_i xs ys e2 e3
        obtain ⟨v, u, rfl, r3, r4⟩ := r1.inv2
        obtain ⟨a, us, rfl, h1, h2⟩ := r3.inv_seq e2
        obtain ⟨b, vs, rfl, h3, h4⟩ := r4.inv_seq e3
        exact ⟨_, _, a, b, us, vs, rfl, h1 _ k1.fh, h3 _ k1.fh, q _ env1 _ F1 H1 p.out e1 k1 (walkD_zipB h1 h3 h2 h4)⟩
      · exact p.elim
    · exact p.elim⟩
end
end DL

namespace K45
open PySem PySem.Spec PyProof.Rows L2 DL
abbrev prg : Program := PySem.Challenge.pw_prizelog_k45_sales_judged
def top (i : Nat) : Stmt := prg.main.body.getD i (.Pass ⟨0, 0, 0, 0⟩)
def fa : List He.Fa := [.free "isinstance", .free "int", .free "bool", .free "tuple", .free "len", .free "all", .free "abs", .free "zip", .free "min", .free "max", .free "list", .free "ValueError", .free "range", .int "MOST_GROSS" 1000000000000, .int "MOST_RATE" 10000, .int "MOST_HEADS" 1000, .int "MOST_BOUNTY" 1000000000, .glo "is_whole", .glo "is_within", .glo "is_from", .glo "are_wholes", .glo "divisor_of", .glo "is_fraction", .glo "need_number", .glo "is_part", .glo "is_sale", .glo "need_sale", .glo "purse_of", .glo "least_pot", .glo "least_gross", .glo "_law_pot", .glo "_law_take", .glo "_law_fraction", .glo "_law_number", .glo "_law_sale", .glo "_law_odd", .glo "_law_is_sale", .glo "_law_word", .glo "_law_asked", .glo "law", .glo "NoWeights", .glo "NoPart", .glo "NoNumber", .glo "NoLog", .glo "NoChase", .glo "NoMiles", .glo "NoLogs", .glo "NoTable", .glo "NoSights", .glo "NoSet", .glo "NoRoll", .glo "NoName", .glo "NoHour", .glo "NoScheme", .glo "NoCrew", .glo "NoMan", .glo "NoSale", .glo "NoCrews", .glo "NoPage", .glo "NoPages", .glo "NoPrize", .glo "NoBalances", .glo "NoMoney", .glo "NoChange", .glo "TooMany", .glo "NoText", .glo "NoRow", .glo "PrizeError", .keep "is_whole", .keep "is_within", .keep "is_from", .keep "are_wholes", .keep "divisor_of", .keep "is_fraction", .keep "need_number", .keep "is_part", .keep "is_sale", .keep "need_sale", .keep "purse_of", .keep "least_pot", .keep "least_gross", .keep "_law_pot", .keep "_law_take", .keep "_law_fraction", .keep "_law_number", .keep "_law_sale", .keep "_law_odd", .keep "_law_is_sale", .keep "_law_word", .keep "_law_asked", .keep "law"]
def dD (x : Str) (i : Nat) : He.FnD := ⟨(x, none), x, x, defArgs (top i), defBody (top i), defScope (top i)⟩
def dA (x y : Str) (i : Nat) : He.FnD := ⟨(x, none), y, y, defArgs (top i), defBody (top i), defScope (top i)⟩
def fn : List He.FnD := [dD "is_whole" 1, dD "is_within" 2, dD "is_from" 3, dD "are_wholes" 4, dD "divisor_of" 5, dD "is_fraction" 6, dD "need_number" 37, dD "is_part" 43, dD "is_sale" 44, dD "need_sale" 45, dD "purse_of" 46, dD "least_pot" 47, dD "least_gross" 48, dD "_law_pot" 50, dD "_law_take" 51, dD "_law_fraction" 52, dD "_law_number" 53, dD "_law_sale" 54, dD "_law_odd" 55, dD "_law_is_sale" 56, dD "_law_word" 57, dD "_law_asked" 58, dD "law" 59]
def fx : List Fx := [.exc "NoNumber", .exc "NoSale"]
abbrev Tp (K : PySem.W.Frag) (mg : Str → Option Value) : Prop := TopX fa fn fx K mg
section
variable {K : PySem.W.Frag} {mg : Str → Option Value}
theorem m_isinstance (T : Tp K mg) : mg "isinstance" = none := T.free "isinstance" 0
theorem m_int (T : Tp K mg) : mg "int" = none := T.free "int" 1
theorem m_bool (T : Tp K mg) : mg "bool" = none := T.free "bool" 2
theorem m_tuple (T : Tp K mg) : mg "tuple" = none := T.free "tuple" 3
theorem m_len (T : Tp K mg) : mg "len" = none := T.free "len" 4
theorem m_all (T : Tp K mg) : mg "all" = none := T.free "all" 5
theorem m_abs (T : Tp K mg) : mg "abs" = none := T.free "abs" 6
theorem m_zip (T : Tp K mg) : mg "zip" = none := T.free "zip" 7
theorem m_min (T : Tp K mg) : mg "min" = none := T.free "min" 8
theorem m_max (T : Tp K mg) : mg "max" = none := T.free "max" 9
theorem m_list (T : Tp K mg) : mg "list" = none := T.free "list" 10
theorem m_ValueError (T : Tp K mg) : mg "ValueError" = none := T.free "ValueError" 11
theorem m_range (T : Tp K mg) : mg "range" = none := T.free "range" 12
theorem c_MOST_GROSS (T : Tp K mg) : ∃ t, mg "MOST_GROSS" = some (.int 1000000000000 t) := T.int "MOST_GROSS" 1000000000000 13
theorem c_MOST_RATE (T : Tp K mg) : ∃ t, mg "MOST_RATE" = some (.int 10000 t) := T.int "MOST_RATE" 10000 14
theorem c_MOST_HEADS (T : Tp K mg) : ∃ t, mg "MOST_HEADS" = some (.int 1000 t) := T.int "MOST_HEADS" 1000 15
theorem c_MOST_BOUNTY (T : Tp K mg) : ∃ t, mg "MOST_BOUNTY" = some (.int 1000000000 t) := T.int "MOST_BOUNTY" 1000000000 16
theorem ce_NoNumber (T : Tp K mg) : CtE K mg "NoNumber" := T.exc "NoNumber" 0
theorem ce_NoSale (T : Tp K mg) : CtE K mg "NoSale" := T.exc "NoSale" 1
theorem gl_NoWeights (T : Tp K mg) : mg "NoWeights" = some (.ref (He.ga K "NoWeights")) := T.glo "NoWeights" 40
theorem gl_NoPart (T : Tp K mg) : mg "NoPart" = some (.ref (He.ga K "NoPart")) := T.glo "NoPart" 41
theorem gl_NoNumber (T : Tp K mg) : mg "NoNumber" = some (.ref (He.ga K "NoNumber")) := T.glo "NoNumber" 42
theorem gl_NoLog (T : Tp K mg) : mg "NoLog" = some (.ref (He.ga K "NoLog")) := T.glo "NoLog" 43
theorem gl_NoChase (T : Tp K mg) : mg "NoChase" = some (.ref (He.ga K "NoChase")) := T.glo "NoChase" 44
theorem gl_NoMiles (T : Tp K mg) : mg "NoMiles" = some (.ref (He.ga K "NoMiles")) := T.glo "NoMiles" 45
theorem gl_NoLogs (T : Tp K mg) : mg "NoLogs" = some (.ref (He.ga K "NoLogs")) := T.glo "NoLogs" 46
theorem gl_NoTable (T : Tp K mg) : mg "NoTable" = some (.ref (He.ga K "NoTable")) := T.glo "NoTable" 47
theorem gl_NoSights (T : Tp K mg) : mg "NoSights" = some (.ref (He.ga K "NoSights")) := T.glo "NoSights" 48
theorem gl_NoSet (T : Tp K mg) : mg "NoSet" = some (.ref (He.ga K "NoSet")) := T.glo "NoSet" 49
theorem gl_NoRoll (T : Tp K mg) : mg "NoRoll" = some (.ref (He.ga K "NoRoll")) := T.glo "NoRoll" 50
theorem gl_NoName (T : Tp K mg) : mg "NoName" = some (.ref (He.ga K "NoName")) := T.glo "NoName" 51
theorem gl_NoHour (T : Tp K mg) : mg "NoHour" = some (.ref (He.ga K "NoHour")) := T.glo "NoHour" 52
theorem gl_NoScheme (T : Tp K mg) : mg "NoScheme" = some (.ref (He.ga K "NoScheme")) := T.glo "NoScheme" 53
theorem gl_NoCrew (T : Tp K mg) : mg "NoCrew" = some (.ref (He.ga K "NoCrew")) := T.glo "NoCrew" 54
theorem gl_NoMan (T : Tp K mg) : mg "NoMan" = some (.ref (He.ga K "NoMan")) := T.glo "NoMan" 55
theorem gl_NoSale (T : Tp K mg) : mg "NoSale" = some (.ref (He.ga K "NoSale")) := T.glo "NoSale" 56
theorem gl_NoCrews (T : Tp K mg) : mg "NoCrews" = some (.ref (He.ga K "NoCrews")) := T.glo "NoCrews" 57
theorem gl_NoPage (T : Tp K mg) : mg "NoPage" = some (.ref (He.ga K "NoPage")) := T.glo "NoPage" 58
theorem gl_NoPages (T : Tp K mg) : mg "NoPages" = some (.ref (He.ga K "NoPages")) := T.glo "NoPages" 59
theorem gl_NoPrize (T : Tp K mg) : mg "NoPrize" = some (.ref (He.ga K "NoPrize")) := T.glo "NoPrize" 60
theorem gl_NoBalances (T : Tp K mg) : mg "NoBalances" = some (.ref (He.ga K "NoBalances")) := T.glo "NoBalances" 61
theorem gl_NoMoney (T : Tp K mg) : mg "NoMoney" = some (.ref (He.ga K "NoMoney")) := T.glo "NoMoney" 62
theorem gl_NoChange (T : Tp K mg) : mg "NoChange" = some (.ref (He.ga K "NoChange")) := T.glo "NoChange" 63
theorem gl_TooMany (T : Tp K mg) : mg "TooMany" = some (.ref (He.ga K "TooMany")) := T.glo "TooMany" 64
theorem gl_NoText (T : Tp K mg) : mg "NoText" = some (.ref (He.ga K "NoText")) := T.glo "NoText" 65
theorem gl_NoRow (T : Tp K mg) : mg "NoRow" = some (.ref (He.ga K "NoRow")) := T.glo "NoRow" 66
theorem gl_PrizeError (T : Tp K mg) : mg "PrizeError" = some (.ref (He.ga K "PrizeError")) := T.glo "PrizeError" 67
end
/-! ### the head -/
abbrev R : PySem.W.OpenRow := PySem.W.OpenLaw.row PySem.Challenge.rw_prizelog_k45_sales_judged
abbrev hk : PySem.W.Hook := hookX 5 fa fn fx
def ob (s : PySem.W.SharedT) : He.Al × Bool × Bool := (He.obsG 5 fa fn (HandSHeadRun.getT s), sysB (HandSHeadRun.getT s), fxG 5 fx (HandSHeadRun.getT s))
theorem ob_eq (s : PySem.W.SharedT) : ob s = hk.obs s.abs := obsX_eq (HandSHeadRun.getT_eq s)
def loose : List Str := "is_whole" :: "is_within" :: "is_from" :: "are_wholes" :: "divisor_of" :: "is_fraction" :: "PrizeError" :: "NoWeights" :: "NoPart" :: "NoNumber" :: "NoLog" :: "NoChase" :: "NoMiles" :: "NoLogs" :: "NoTable" :: "NoSights" :: "NoSet" :: "NoRoll" :: "NoName" :: "NoHour" :: "NoScheme" :: "NoCrew" :: "NoMan" :: "NoSale" :: "NoCrews" :: "NoPages" :: "NoPage" :: "NoPrize" :: "NoBalances" :: "NoMoney" :: "NoChange" :: "TooMany" :: "NoText" :: "NoRow" :: "need_number" :: "MOST_GROSS" :: "MOST_RATE" :: "MOST_HEADS" :: "MOST_BOUNTY" :: "is_part" :: "is_sale" :: "need_sale" :: "purse_of" :: "least_pot" :: "least_gross" :: "_law_pot" :: "_law_take" :: "_law_fraction" :: "_law_number" :: "_law_sale" :: "_law_odd" :: "_law_is_sale" :: "_law_word" :: "_law_asked" :: []
theorem run (w : World) : HandSHeadRun.RunEq R (PySem.W.view R.prog [59]) hk ob 20000 loose w := by
  intro os
  kernel_rfl
def q_is_whole (thing : PyData) (K : PyData → Prop) : Prop :=
  vAnd (isiB thing "int") (fun k1 => k1 (.bool (!(isiB thing "bool")))) fun t2 =>
  K t2
def q_is_within (thing : PyData) (least : PyData) (most : PyData) (K : PyData → Prop) : Prop :=
  q_is_whole thing fun i1 =>
  bT i1 fun b2 =>
  vAnd b2 (fun k8 => oLe least thing fun t3 =>
  bT t3 fun b4 =>
  vAnd b4 (fun k6 => oLe thing most fun t5 =>
  k6 t5) fun t7 =>
  k8 t7) fun t9 =>
  K t9
def q_is_from (thing : PyData) (least : PyData) (K : PyData → Prop) : Prop :=
  q_is_whole thing fun i1 =>
  bT i1 fun b2 =>
  vAnd b2 (fun k4 => oLe least thing fun t3 =>
  k4 t3) fun t5 =>
  K t5
def qb_are_wholes_1 (d : PyData) (i : PyData × PyData) (s : Unit) (sk : (PyData × PyData) → Unit → Prop) (yd : PyData → (PyData × PyData) → Unit → Prop) : Prop :=
  q_is_whole d fun i5 =>
  yd i5 (i.1, i.2) ()
def q_are_wholes (thing : PyData) (many : PyData) (K : PyData → Prop) : Prop :=
  vAnd (isiB thing "tuple") (fun k12 => nLen [thing] fun t1 =>
  oEq t1 many fun t2 =>
  bT t2 fun b3 =>
  vAnd b3 (fun k10 => itemsQ thing fun l4 =>
  qLc qb_are_wholes_1 (thing, many) l4 [] () fun l6 s8 =>
  nAll [(.list l6)] fun t9 =>
  k10 t9) fun t11 =>
  k12 t11) fun t13 =>
  K t13
def qb_divisor_of_1 (K : PyData → Prop) (i : Unit) (s : PyData × PyData) (nx bk : Unit → (PyData × PyData) → Prop) : Prop :=
  oGt s.2 (.int 0) fun t3 =>
  bT t3 fun b4 =>
  bIf b4
  (oMod s.1 s.2 fun t5 =>
  nx () (s.2, t5))
  (bk () (s.1, s.2))
def q_divisor_of (one : PyData) (other : PyData) (K : PyData → Prop) : Prop :=
  nAbs [one] fun t1 =>
  nAbs [other] fun t2 =>
  qWhile (qb_divisor_of_1 K) () (t1, t2) fun s7 =>
  K s7.1
def q_is_fraction (thing : PyData) (K : PyData → Prop) : Prop :=
  q_are_wholes thing (.int 2) fun a1 =>
  bT a1 fun b2 =>
  vAnd b2 (fun k12 => oIx thing (.int 1) fun t3 =>
  oGt t3 (.int 0) fun t4 =>
  bT t4 fun b5 =>
  vAnd b5 (fun k10 => oIx thing (.int 0) fun t6 =>
  oIx thing (.int 1) fun t7 =>
  q_divisor_of t6 t7 fun d8 =>
  oEq d8 (.int 1) fun t9 =>
  k10 t9) fun t11 =>
  k12 t11) fun t13 =>
  K t13
def q_need_number (thing : PyData) (K : PyData → Prop) (E : Str → Prop) : Prop :=
  q_is_from thing (.int 0) fun i1 =>
  bT i1 fun b2 =>
  bIf (!b2)
  (E "NoNumber")
  (K .none)
def q_is_part (thing : PyData) (K : PyData → Prop) : Prop :=
  q_is_fraction thing fun i1 =>
  bT i1 fun b2 =>
  vAnd b2 (fun k10 => oIx thing (.int 0) fun t3 =>
  oLe (.int 0) t3 fun t4 =>
  bT t4 fun b5 =>
  vAnd b5 (fun k8 => oIx thing (.int 1) fun t6 =>
  oLe t3 t6 fun t7 =>
  k8 t7) fun t9 =>
  k10 t9) fun t11 =>
  K t11
def qb_is_sale_1 (d : PyData) (i : PyData × PyData) (s : Unit) (sk : (PyData × PyData) → Unit → Prop) (yd : PyData → (PyData × PyData) → Unit → Prop) : Prop :=
  tupQ d fun r =>
  consQ r fun number' r1 =>
  consQ r1 fun bound' r2 =>
  nilQ r2 (q_is_within number' (.int 0) bound' fun i12 =>
  yd i12 (i.1, i.2) ())
def q_is_sale (thing : PyData) (K : PyData → Prop) : Prop :=
  tOr (!(isiB thing "tuple")) (fun k9 => nLen [thing] fun t1 =>
  oNe t1 (.int 6) fun t2 =>
  bT t2 fun b3 =>
  tOr b3 (fun k7 => oIx thing (.int 5) fun t4 =>
  q_is_part t4 fun i5 =>
  bT i5 fun b6 =>
  k7 (!b6)) fun b8 =>
  k9 b8) fun b10 =>
  bIf b10
  (K (.bool false))
  (zipQ [thing, (.tuple [(.int (1000000000000)), (.int (1000000000000)), (.int (10000)), (.int (1000)), (.int (1000000000))])] fun l11 =>
  qLc qb_is_sale_1 (thing, (.tuple [(.int (1000000000000)), (.int (1000000000000)), (.int (10000)), (.int (1000)), (.int (1000000000))])) l11 [] () fun l13 s15 =>
  nAll [(.list l13)] fun t16 =>
  K t16)
def q_need_sale (thing : PyData) (K : PyData → Prop) (E : Str → Prop) : Prop :=
  q_is_sale thing fun i1 =>
  bT i1 fun b2 =>
  bIf (!b2)
  (E "NoSale")
  (K .none)
def q_purse_of (sale : PyData) (K : PyData → Prop) (E : Str → Prop) : Prop :=
  q_need_sale sale (fun n1 =>
  tupQ sale fun r2 =>
  consQ r2 fun gross3 r4 =>
  consQ r4 fun charges5 r6 =>
  consQ r6 fun rate7 r8 =>
  consQ r8 fun heads9 r10 =>
  consQ r10 fun bounty11 r12 =>
  consQ r12 fun part13 r14 =>
  nilQ r14 (nMin2 [charges5, gross3] fun paid15 =>
  oSub gross3 paid15 fun t16 =>
  oIx part13 (.int 0) fun t17 =>
  oMul t16 t17 fun t18 =>
  oIx part13 (.int 1) fun t19 =>
  oDiv t18 t19 fun captors20 =>
  oMul heads9 bounty11 fun t21 =>
  oAdd captors20 t21 fun pot22 =>
  oMul pot22 rate7 fun t23 =>
  oDiv t23 (.int (10000)) fun fee24 =>
  oSub gross3 paid15 fun t25 =>
  oSub t25 captors20 fun t26 =>
  oSub pot22 fee24 fun t27 =>
  K (.tuple [paid15, t26, fee24, t27]))) E
def q_least_pot (rate : PyData) (n : PyData) (K : PyData → Prop) : Prop :=
  oEq n (.int 0) fun t1 =>
  bT t1 fun b2 =>
  bIf b2
  (K (.int 0))
  (oEq rate (.int (10000)) fun t3 =>
  bT t3 fun b4 =>
  bIf b4
  (K .none)
  (oSub n (.int 1) fun t5 =>
  oMul t5 (.int (10000)) fun t6 =>
  oSub (.int (10000)) rate fun t7 =>
  oDiv t6 t7 fun t8 =>
  oAdd t8 (.int 1) fun t9 =>
  K t9))
def q_least_gross (sale : PyData) (n : PyData) (K : PyData → Prop) (E : Str → Prop) : Prop :=
  q_need_sale sale (fun n1 =>
  q_need_number n (fun n2 =>
  tupQ sale fun r3 =>
  consQ r3 fun gross4 r5 =>
  consQ r5 fun charges6 r7 =>
  consQ r7 fun rate8 r9 =>
  consQ r9 fun heads10 r11 =>
  consQ r11 fun bounty12 r13 =>
  consQ r13 fun part14 r15 =>
  nilQ r15 (q_least_pot rate8 n fun pot16 =>
  oIsN pot16 fun t17 =>
  bT t17 fun b18 =>
  bIf b18
  (K .none)
  (oMul heads10 bounty12 fun t19 =>
  oSub pot16 t19 fun captors20 =>
  oLe captors20 (.int 0) fun t21 =>
  bT t21 fun b22 =>
  bIf b22
  (K (.int 0))
  (oIx part14 (.int 0) fun t23 =>
  oEq t23 (.int 0) fun t24 =>
  bT t24 fun b25 =>
  bIf b25
  (K .none)
  (oIx part14 (.int 1) fun t26 =>
  oMul captors20 t26 fun t27 =>
  oSub t27 (.int 1) fun t28 =>
  oIx part14 (.int 0) fun t29 =>
  oDiv t28 t29 fun t30 =>
  oAdd charges6 t30 fun t31 =>
  oAdd t31 (.int 1) fun t32 =>
  K t32))))) E) E
def q_law_pot (script : PyData) (k : PyData) (K : List PyData → Prop) : Prop :=
  oMul (.int 7919) k fun t1 =>
  oAdd t1 (.int 31) fun cell2 =>
  nLen [script] fun t3 =>
  oLt k t3 fun t4 =>
  bT t4 fun b5 =>
  jn (fun J8 => bIf b5
  (oIx script k fun cell6 =>
  J8 cell6)
  (J8 cell2)) fun cell7 =>
  oPow (.int 10) (.int 18) fun t9 =>
  oSub cell7 t9 fun t10 =>
  nMax2 [(.int 0), t10] fun t11 =>
  oPow (.int 10) (.int 60) fun t12 =>
  oPow t12 (.int 10) fun t13 =>
  oMod t11 t13 fun t14 =>
  oMod cell7 (.int 2147483629) fun t15 =>
  oMul (.int 9973) k fun t16 =>
  oAdd t15 t16 fun t17 =>
  K [t14, t17, (.int 0)]
def q_law_take (pot_here : List PyData) (many : PyData) (K : PyData → List PyData → Prop) : Prop :=
  ixQ pot_here (.int 0) fun t1 =>
  oGt t1 (.int 0) fun t2 =>
  bT t2 fun b3 =>
  bIf b3
  (ixQ pot_here (.int 0) fun t4 =>
  oMod t4 many fun digit5 =>
  ixQ pot_here (.int 0) fun t6 =>
  oDiv t6 many fun t7 =>
  stQ pot_here (.int 0) t7 fun pot_here8 =>
  K digit5 pot_here8)
  (ixQ pot_here (.int 2) fun t9 =>
  oAdd t9 (.int 1) fun t10 =>
  stQ pot_here (.int 2) t10 fun pot_here11 =>
  ixQ pot_here11 (.int 1) fun t12 =>
  ixQ pot_here11 (.int 2) fun t13 =>
  oMul (.int 104729) t13 fun t14 =>
  oAdd t12 t14 fun t15 =>
  oAdd t15 (.int 11) fun t16 =>
  oPow t16 (.int 5) fun t17 =>
  oMod t17 (.int 2147483647) fun one18 =>
  oDiv one18 (.int 8) fun t19 =>
  ixQ pot_here11 (.int 2) fun t20 =>
  oMul (.int 7919) t20 fun t21 =>
  ixQ pot_here11 (.int 2) fun t22 =>
  oMul t21 t22 fun t23 =>
  oAdd t19 t23 fun t24 =>
  oAdd t24 (.int 3) fun t25 =>
  oPow t25 (.int 3) fun t26 =>
  oMod t26 (.int 2147483587) fun other27 =>
  oDiv one18 (.int 4) fun t28 =>
  oDiv other27 (.int 4) fun t29 =>
  oMul (.int 536870909) t29 fun t30 =>
  oAdd t28 t30 fun t31 =>
  oMod t31 many fun t32 =>
  K t32 pot_here11)
def qb_law_fraction_1 (K : PyData → Prop) (i : PyData × PyData) (s : PyData × PyData) (nx bk : (PyData × PyData) → (PyData × PyData) → Prop) : Prop :=
  oGt s.2 (.int 0) fun t2 =>
  bT t2 fun b3 =>
  bIf b3
  (oMod s.1 s.2 fun t4 =>
  nx (i.1, i.2) (s.2, t4))
  (bk (i.1, i.2) (s.1, s.2))
def q_law_fraction (p : PyData) (q : PyData) (K : PyData → Prop) : Prop :=
  nAbs [p] fun t1 =>
  qWhile (qb_law_fraction_1 K) (p, q) (t1, q) fun s6 =>
  oDiv p s6.1 fun t7 =>
  oDiv q s6.1 fun t8 =>
  K (.tuple [t7, t8])
def q_law_number (pot_here : List PyData) (most : PyData) (K : PyData → List PyData → Prop) : Prop :=
  q_law_take pot_here (.int 5) fun way1 pot_here2 =>
  q_law_take pot_here2 (.int 40) fun few3 pot_here4 =>
  nMin2 [most, few3] fun t5 =>
  oAdd most (.int 1) fun t6 =>
  q_law_take pot_here4 t6 fun t7 pot_here8 =>
  oMod few3 (.int 3) fun t9 =>
  nMin2 [most, t9] fun t10 =>
  oSub most t10 fun t11 =>
  oPow (.int 10) (.int 6) fun t12 =>
  oPow (.int 10) (.int 9) fun t13 =>
  oPow (.int 10) (.int 12) fun t14 =>
  oMod few3 (.int 7) fun t15 =>
  oIx (.list [(.int 1), (.int 10), (.int 1000), (.int 10000), t12, t13, t14]) t15 fun t16 =>
  nMin2 [most, t16] fun t17 =>
  oIx (.list [(.int 0), t5, t7, t11, t17]) way1 fun t18 =>
  K t18 pot_here8
def q_law_sale (pot_here : List PyData) (K : PyData → List PyData → Prop) : Prop :=
  oPow (.int 10) (.int 12) fun t1 =>
  q_law_number pot_here t1 fun gross2 pot_here3 =>
  oPow (.int 10) (.int 12) fun t4 =>
  q_law_number pot_here3 t4 fun n5 pot_here6 =>
  oDiv gross2 (.int 3) fun t7 =>
  q_law_take pot_here6 (.int 4) fun t8 pot_here9 =>
  oIx (.list [n5, gross2, t7, (.int 0)]) t8 fun charges10 =>
  q_law_take pot_here9 (.int 10001) fun t11 pot_here12 =>
  q_law_take pot_here12 (.int 5) fun t13 pot_here14 =>
  oIx (.list [t11, (.int 0), (.int 10000), (.int 250), (.int 9999)]) t13 fun rate15 =>
  oPow (.int 10) (.int 6) fun t16 =>
  oPow (.int 10) (.int 30) fun t17 =>
  q_law_take pot_here14 (.int 3) fun t18 pot_here19 =>
  oIx (.list [(.int 20), t16, t17]) t18 fun t20 =>
  q_law_number pot_here19 t20 fun n21 pot_here22 =>
  oAdd (.int 1) n21 fun bottom23 =>
  oAdd bottom23 (.int 1) fun t24 =>
  q_law_take pot_here22 t24 fun t25 pot_here26 =>
  q_law_take pot_here26 (.int 4) fun t27 pot_here28 =>
  oIx (.list [t25, (.int 0), bottom23, (.int 1)]) t27 fun top29 =>
  q_law_number pot_here28 (.int 1000) fun heads30 pot_here31 =>
  oPow (.int 10) (.int 9) fun t32 =>
  q_law_number pot_here31 t32 fun n33 pot_here34 =>
  q_law_fraction top29 bottom23 fun f35 =>
  K (.tuple [gross2, charges10, rate15, heads30, n33, f35]) pot_here34
def q_law_odd (pot_here : List PyData) (sale_here : PyData) (K : PyData → List PyData → Prop) : Prop :=
  q_law_take pot_here (.int 5) fun way1 pot_here2 =>
  q_law_take pot_here2 (.int 6) fun at_3 pot_here4 =>
  q_law_take pot_here4 (.int 12) fun pick5 pot_here6 =>
  oPow (.int 10) (.int 12) fun t7 =>
  oPow (.int 10) (.int 12) fun t8 =>
  oPow (.int 10) (.int 9) fun t9 =>
  oIx (.list [t7, t8, (.int 10000), (.int 1000), t9, (.int 1)]) at_3 fun t10 =>
  oAdd t10 (.int 1) fun t11 =>
  oPow (.int 10) (.int 39) fun t12 =>
  oIx (.list [t7, t8, (.int 10000), (.int 1000), t9, (.int 1)]) at_3 fun t13 =>
  oIx (.list [t11, (.int (-1)), (.bool true), (.bool false), .none, (.str "1"), (.tuple [(.int 1)]), (.list [(.int 0)]), t12, t13, (.int 0), (.dict [])]) pick5 fun odd_here14 =>
  oLt way1 (.int 2) fun t15 =>
  bT t15 fun b16 =>
  bIf b16
  (soQ at_3 fun o17 =>
  oSl sale_here none o17 fun l18 =>
  oAdd l18 (.tuple [odd_here14]) fun t19 =>
  oAdd at_3 (.int 1) fun t20 =>
  soQ t20 fun o21 =>
  oSl sale_here o21 none fun l22 =>
  oAdd t19 l22 fun t23 =>
  K t23 pot_here6)
  (oEq way1 (.int 2) fun t24 =>
  bT t24 fun b25 =>
  bIf b25
  (oIx sale_here (.int 5) fun t26 =>
  tupQ t26 fun r27 =>
  consQ r27 fun p28 r29 =>
  consQ r29 fun q30 r31 =>
  nilQ r31 (oPow (.int 10) (.int 9) fun t32 =>
  oAdd t32 (.int 7) fun t33 =>
  q_law_take pot_here6 (.int 6) fun t34 pot_here35 =>
  oIx (.list [(.int 2), (.int 3), (.int 5), (.int 7), (.int 101), t33]) t34 fun by_36 =>
  oMul by_36 p28 fun t37 =>
  oMul by_36 q30 fun t38 =>
  oAdd q30 by_36 fun t39 =>
  oSub (.int 0) by_36 fun t40 =>
  oSub (.int 0) q30 fun t41 =>
  oSl sale_here none (some 5) fun l42 =>
  oAdd (.list [(.tuple [t37, t38]), (.tuple [t39, q30]), (.tuple [t40, q30]), (.tuple [p28, (.int 0)]), (.tuple [p28, t41]), (.list [p28, q30]), (.tuple [p28, q30, (.int 1)]), (.tuple [p28]), (.tuple [(.bool true), (.int 1)])]) (.list [(.tuple [(.int 0), (.int 1)]), (.tuple [(.int 1), (.int 1)]), .none]) fun t43 =>
  oIx t43 pick5 fun t44 =>
  oAdd l42 (.tuple [t44]) fun t45 =>
  K t45 pot_here35))
  (oEq way1 (.int 3) fun t46 =>
  bT t46 fun b47 =>
  bIf b47
  (soQ at_3 fun o48 =>
  oSl sale_here none o48 fun l49 =>
  oAdd at_3 (.int 1) fun t50 =>
  oMod pick5 (.int 2) fun t51 =>
  oMul (.int 2) t51 fun t52 =>
  oSub t50 t52 fun t53 =>
  soQ t53 fun o54 =>
  oSl sale_here o54 none fun l55 =>
  oAdd l49 l55 fun t56 =>
  K t56 pot_here6)
  (nList [sale_here] fun l57 =>
  oRevA sale_here fun l58 =>
  oAdd sale_here (.tuple [(.int 0)]) fun t59 =>
  oSl sale_here none (some 5) fun l60 =>
  oIx (.list [(.list l57), l58, t59, (.tuple []), .none, (.int 5), (.str "sale"), (.bool true), (.dict []), l60, (.tuple [sale_here]), sale_here]) pick5 fun t61 =>
  K t61 pot_here6)))
def qb_law_is_sale_1 (K : PyData → Prop) (d : PyData) (i : PyData) (s : Unit) (nx bk : PyData → Unit → Prop) : Prop :=
  tupQ d fun r10 =>
  consQ r10 fun number_here11 r12 =>
  consQ r12 fun most13 r14 =>
  nilQ r14 (tOr (!(isiB number_here11 "int")) (fun k23 => tOr (isiB number_here11 "bool") (fun k21 => oLe (.int 0) number_here11 fun t15 =>
  bT t15 fun b16 =>
  vAnd b16 (fun k18 => oLe number_here11 most13 fun t17 =>
  k18 t17) fun t19 =>
  bT t19 fun b20 =>
  k21 (!b20)) fun b22 =>
  k23 b22) fun b24 =>
  bIf b24
  (K (.bool false))
  (nx i ()))
def qb_law_is_sale_2 (K : PyData → Prop) (d : PyData) (i : PyData) (s : Unit) (nx bk : PyData → Unit → Prop) : Prop :=
  tOr (!(isiB d "int")) (fun k34 => k34 (isiB d "bool")) fun b35 =>
  bIf b35
  (K (.bool false))
  (nx i ())
def q_law_is_sale (thing : PyData) (K : PyData → Prop) : Prop :=
  tOr (!(isiB thing "tuple")) (fun k4 => nLen [thing] fun t1 =>
  oNe t1 (.int 6) fun t2 =>
  bT t2 fun b3 =>
  k4 b3) fun b5 =>
  bIf b5
  (K (.bool false))
  (oPow (.int 10) (.int 12) fun t6 =>
  oPow (.int 10) (.int 12) fun t7 =>
  oPow (.int 10) (.int 9) fun t8 =>
  zip2A [thing, (.list [t6, t7, (.int 10000), (.int 1000), t8])] fun l9 =>
  qFor (qb_law_is_sale_1 K) thing l9 () fun s26 =>
  oIx thing (.int 5) fun part27 =>
  tOr (!(isiB part27 "tuple")) (fun k31 => nLen [part27] fun t28 =>
  oNe t28 (.int 2) fun t29 =>
  bT t29 fun b30 =>
  k31 b30) fun b32 =>
  bIf b32
  (K (.bool false))
  (itemsQ part27 fun l33 =>
  qFor (qb_law_is_sale_2 K) part27 l33 () fun s37 =>
  oIx part27 (.int 0) fun t38 =>
  oLe (.int 0) t38 fun t39 =>
  bT t39 fun b40 =>
  vAnd b40 (fun k43 => oIx part27 (.int 1) fun t41 =>
  oLe t38 t41 fun t42 =>
  k43 t42) fun t44 =>
  bT t44 fun b45 =>
  vAnd b45 (fun k55 => oIx part27 (.int 1) fun t46 =>
  oGt t46 (.int 0) fun t47 =>
  bT t47 fun b48 =>
  vAnd b48 (fun k53 => oIx part27 (.int 0) fun t49 =>
  oIx part27 (.int 1) fun t50 =>
  q_law_fraction t49 t50 fun f51 =>
  oEq f51 part27 fun t52 =>
  k53 t52) fun t54 =>
  k55 t54) fun t56 =>
  K t56))
def qb_law_word_1 (d : PyData) (i : PyData × PyData) (s : Unit) (sk : (PyData × PyData) → Unit → Prop) (yd : PyData → (PyData × PyData) → Unit → Prop) : Prop :=
  tupQ d fun r =>
  consQ r fun name' r1 =>
  consQ r1 fun here' r2 =>
  nilQ r2 (bT here' fun b41 =>
  bIf b41
  (yd name' (i.1, i.2) ())
  (sk (i.1, i.2) ()))
def q_law_word (caught : PyData) (K : PyData → Prop) : Prop :=
  isxQ caught ["NoWeights"] fun b1 =>
  isxQ caught ["NoPart"] fun b2 =>
  isxQ caught ["NoNumber"] fun b3 =>
  isxQ caught ["NoLog"] fun b4 =>
  isxQ caught ["NoChase"] fun b5 =>
  isxQ caught ["NoMiles"] fun b6 =>
  oAdd (.list [(.bool b1), (.bool b2), (.bool b3)]) (.list [(.bool b4), (.bool b5), (.bool b6)]) fun some_7 =>
  isxQ caught ["NoLogs"] fun b8 =>
  isxQ caught ["NoTable"] fun b9 =>
  isxQ caught ["NoSights"] fun b10 =>
  oAdd some_7 (.list [(.bool b8), (.bool b9), (.bool b10)]) fun some_11 =>
  isxQ caught ["NoSet"] fun b12 =>
  isxQ caught ["NoRoll"] fun b13 =>
  isxQ caught ["NoName"] fun b14 =>
  oAdd some_11 (.list [(.bool b12), (.bool b13), (.bool b14)]) fun some_15 =>
  oAdd (.list [(.str "weights"), (.str "part"), (.str "number"), (.str "log"), (.str "chase"), (.str "miles"), (.str "logs"), (.str "table"), (.str "sights"), (.str "set"), (.str "roll"), (.str "name")]) (.list [(.str "hour"), (.str "scheme"), (.str "crew"), (.str "man"), (.str "sale"), (.str "crews"), (.str "page"), (.str "pages"), (.str "prize"), (.str "balances"), (.str "money")]) fun names16 =>
  isxQ caught ["NoHour"] fun b17 =>
  isxQ caught ["NoScheme"] fun b18 =>
  isxQ caught ["NoCrew"] fun b19 =>
  oAdd some_15 (.list [(.bool b17), (.bool b18), (.bool b19)]) fun some_20 =>
  isxQ caught ["NoMan"] fun b21 =>
  isxQ caught ["NoSale"] fun b22 =>
  isxQ caught ["NoCrews"] fun b23 =>
  oAdd some_20 (.list [(.bool b21), (.bool b22), (.bool b23)]) fun some_24 =>
  isxQ caught ["NoPage"] fun b25 =>
  isxQ caught ["NoPages"] fun b26 =>
  isxQ caught ["NoPrize"] fun b27 =>
  oAdd some_24 (.list [(.bool b25), (.bool b26), (.bool b27)]) fun some_28 =>
  isxQ caught ["NoBalances"] fun b29 =>
  isxQ caught ["NoMoney"] fun b30 =>
  oAdd some_28 (.list [(.bool b29), (.bool b30)]) fun some_31 =>
  oAdd names16 (.list [(.str "change"), (.str "many"), (.str "text"), (.str "row"), (.str "other")]) fun names32 =>
  isxQ caught ["NoChange"] fun b33 =>
  isxQ caught ["TooMany"] fun b34 =>
  isxQ caught ["NoText"] fun b35 =>
  oAdd some_31 (.list [(.bool b33), (.bool b34), (.bool b35)]) fun some_36 =>
  isxQ caught ["NoRow"] fun b37 =>
  isvQ caught fun b38 =>
  oAdd some_36 (.list [(.bool b37), (.bool (!b38))]) fun some_39 =>
  zipLQ [names32, some_39] fun l40 =>
  qLc qb_law_word_1 (names32, some_39) l40 [] () fun l42 s44 =>
  nJoin " " (.list l42) fun t45 =>
  K t45
def q_law_asked (way : PyData) (thing : PyData) (n : PyData) (K : PyData → Prop) : Prop :=
  jn (fun J7 => oEq way (.int 0) fun t1 =>
  bT t1 fun b2 =>
  bIf b2
  (q_purse_of thing (fun p3 =>
  J7) (fun c => q_law_word (exD c) fun w4 =>
  K w4))
  (q_least_gross thing n (fun l5 =>
  J7) (fun c => q_law_word (exD c) fun w6 =>
  K w6))) (K (.str "told"))
def qb_law_2 (K : PyData → Prop) (d : PyData) (i : PyData × PyData) (s : List PyData) (nx bk : (PyData × PyData) → (List PyData) → Prop) : Prop :=
  q_law_odd s i.2 fun thing12 pot_here13 =>
  oMod d (.int 3) fun t14 =>
  oEq t14 (.int 2) fun t15 =>
  bT t15 fun b16 =>
  tAnd b16 (fun k22 => tAnd (isiB thing12 "tuple") (fun k20 => nLen [thing12] fun t17 =>
  oEq t17 (.int 6) fun t18 =>
  bT t18 fun b19 =>
  k20 b19) fun b21 =>
  k22 b21) fun b23 =>
  jn (fun J40 => bIf b23
  (q_law_take pot_here13 (.int 5) fun at_24 pot_here25 =>
  oPow (.int 10) (.int 12) fun t26 =>
  oAdd t26 (.int 1) fun t27 =>
  q_law_take pot_here25 (.int 6) fun t28 pot_here29 =>
  oIx (.list [(.int (-1)), .none, (.bool true), t27, (.str "0"), (.int 0)]) t28 fun odd_here30 =>
  soQ at_24 fun o31 =>
  oSl thing12 none o31 fun l32 =>
  oAdd l32 (.tuple [odd_here30]) fun t33 =>
  oAdd at_24 (.int 1) fun t34 =>
  soQ t34 fun o35 =>
  oSl thing12 o35 none fun l36 =>
  oAdd t33 l36 fun thing37 =>
  J40 pot_here29 thing37)
  (J40 pot_here13 thing12)) fun pot_here38 thing39 =>
  q_law_is_sale thing39 fun due41 =>
  oPow (.int 10) (.int 15) fun t42 =>
  q_law_take pot_here38 (.int 7) fun t43 pot_here44 =>
  oIx (.list [(.int 0), (.int (-1)), .none, (.bool true), (.str "1"), (.tuple [(.int 1)]), t42]) t43 fun n45 =>
  q_is_sale thing39 fun found46 =>
  tOr (!(isiB found46 "bool")) (fun k49 => oNe found46 due41 fun t47 =>
  bT t47 fun b48 =>
  k49 b48) fun b50 =>
  bIf b50
  (K (.bool false))
  (q_law_asked (.int 0) thing39 (.int 0) fun a51 =>
  nInt [due41] fun t52 =>
  oIx (.list [(.str "sale"), (.str "told")]) t52 fun t53 =>
  oNe a51 t53 fun t54 =>
  bT t54 fun b55 =>
  bIf b55
  (K (.bool false))
  (vAnd (isiB n45 "int") (fun k59 => vAnd (!(isiB n45 "bool")) (fun k57 => oGe n45 (.int 0) fun t56 =>
  k57 t56) fun t58 =>
  k59 t58) fun t60 =>
  q_law_asked (.int 1) thing39 n45 fun a61 =>
  nInt [t60] fun t62 =>
  oIx (.list [(.str "number"), (.str "told")]) t62 fun t63 =>
  nInt [due41] fun t64 =>
  oIx (.list [(.str "sale"), t63]) t64 fun t65 =>
  oNe a61 t65 fun t66 =>
  bT t66 fun b67 =>
  bIf b67
  (K (.bool false))
  (nx (i.1, i.2) pot_here44)))
def qb_law_1 (K : PyData → Prop) (d : PyData) (i : PyData) (s : Unit) (nx bk : PyData → Unit → Prop) : Prop :=
  q_law_pot i d fun pot_here5 =>
  q_law_sale pot_here5 fun sale_here6 pot_here7 =>
  q_is_sale sale_here6 fun i8 =>
  oIsB true true i8 fun t9 =>
  bT t9 fun b10 =>
  bIf b10
  (K (.bool false))
  (rng1 [(.int 6)] fun l11 =>
  qFor (qb_law_2 K) (i, sale_here6) l11 pot_here7 fun s69 =>
  nx i ())
def q_law (script : PyData) (K : PyData → Prop) : Prop :=
  nLen [script] fun t1 =>
  nMin2 [t1, (.int 20)] fun t2 =>
  oAdd t2 (.int 1) fun t3 =>
  rng1 [t3] fun l4 =>
  qFor (qb_law_1 K) script l4 () fun s71 =>
  K (.bool true)
local macro_rules | `(tactic| walk_at "q") => `(tactic| try simp only [q_bT, q_add, q_addT, q_addL, q_addS, q_sub, q_mul, q_mulT, q_div, q_mod, q_pow, q_neg, q_lt, q_le, q_gt, q_ge, q_oI, q_eq, q_ne, q_eqS, q_neS, q_isN, q_isNi, q_isNt, q_isNs, q_notN, q_notNi, q_notNt, q_ix, q_ixL, q_ixQ, q_len, q_lenT, q_lenS, q_abs, q_min, q_max, q_tupleOf, q_tupleOfT, q_int, q_intB, q_list, q_listT, q_tup, q_cons, q_nil, q_so, q_lst, q_items, q_itemsT, q_rev, q_zip, q_zipT, q_rng1, q_rng2, q_sumI, q_sumTI, q_allB, q_anyB, q_ap, q_jn, q_fd, q_rep, q_slT, q_slL, q_max3, q_min3, q_str, q_cat, q_catN, q_scalN, q_scalB, q_scalI, q_scalS, q_enumL, q_enumT, q_inL, q_inT, q_inS, q_ninL, q_ninT, q_ninS, Bool.true_eq_false, Bool.false_eq_true, false_imp_iff, true_imp_iff, q_eqB, q_neB, q_empL, q_empT, q_isB, q_revL, q_revT, List.isEmpty_cons, List.isEmpty_nil, bne_self_eq_false, Bool.bne_false, Bool.bne_true, q_same, q_tAnd_k, q_tOr_k, q_vAnd_k, q_vOr_k, q_tAnd_s, q_tOr_s, q_vAnd_s, q_vOr_s, q_vIf_k, q_tAnd_t, q_tAnd_f, q_tOr_t, q_tOr_f, q_vAnd_t, q_vAnd_f, q_vOr_t, q_vOr_f, q_vIf_t, q_vIf_f, at0, at1, at2, at3, at4, at5, at6, atLast, st0, st1, st2, st3, st4, bIf_t, bIf_f, true_and, and_true, Bool.not_true, Bool.not_false, Bool.true_and, Bool.false_and, Bool.and_true, Bool.and_false, Bool.true_or, Bool.or_true, Bool.false_or, Bool.or_false, Bool.not_not, decide_true, decide_false, List.length_cons, List.cons_append, List.nil_append, List.length_nil, List.length_map, List.length_append, isi_non_int, isi_non_bool, isi_non_str, isi_non_list, isi_non_tuple, isi_non_dict, isi_bl_int, isi_bl_bool, isi_bl_str, isi_bl_list, isi_bl_tuple, isi_bl_dict, isi_int_int, isi_int_bool, isi_int_str, isi_int_list, isi_int_tuple, isi_int_dict, isi_str_int, isi_str_bool, isi_str_str, isi_str_list, isi_str_tuple, isi_str_dict, isi_lst_int, isi_lst_bool, isi_lst_str, isi_lst_list, isi_lst_tuple, isi_lst_dict, isi_tup_int, isi_tup_bool, isi_tup_str, isi_tup_list, isi_tup_tuple, isi_tup_dict, isi_dct_int, isi_dct_bool, isi_dct_str, isi_dct_list, isi_dct_tuple, isi_dct_dict])
local macro_rules | `(tactic| walk_at "side") => `(tactic| first | assumption | exact rfl | omega | exact sz_of (by omega) (by omega) | decide | (refine ⟨?_, ?_⟩ <;> walk_at "side"))
local macro_rules | `(tactic| walk_at "sides") => `(tactic| repeat ((with_reducible refine And.intro ?_ ?_); (· walk_at "side"); walk_at "q"))
local macro_rules | `(tactic| walk_at "go") => `(tactic| (walk_at "q"; walk_at "sides"))
local macro_rules | `(tactic| walk_at "j") => `(tactic| try simp only [q_bT, q_add, q_addT, q_addL, q_addS, q_sub, q_mul, q_mulT, q_div, q_mod, q_pow, q_neg, q_lt, q_le, q_gt, q_ge, q_oI, q_eq, q_ne, q_eqS, q_neS, q_isN, q_isNi, q_isNt, q_isNs, q_notN, q_notNi, q_notNt, q_ix, q_ixL, q_ixQ, q_len, q_lenT, q_lenS, q_abs, q_min, q_max, q_tupleOf, q_tupleOfT, q_int, q_intB, q_list, q_listT, q_tup, q_cons, q_nil, q_so, q_lst, q_items, q_itemsT, q_rev, q_zip, q_zipT, q_rng1, q_rng2, q_sumI, q_sumTI, q_allB, q_anyB, q_ap, q_fd, q_rep, q_slT, q_slL, q_max3, q_min3, q_str, q_cat, q_catN, q_scalN, q_scalB, q_scalI, q_scalS, q_enumL, q_enumT, q_inL, q_inT, q_inS, q_ninL, q_ninT, q_ninS, Bool.true_eq_false, Bool.false_eq_true, false_imp_iff, true_imp_iff, q_eqB, q_neB, q_empL, q_empT, q_isB, q_revL, q_revT, List.isEmpty_cons, List.isEmpty_nil, bne_self_eq_false, Bool.bne_false, Bool.bne_true, q_same, q_tAnd_k, q_tOr_k, q_vAnd_k, q_vOr_k, q_tAnd_s, q_tOr_s, q_vAnd_s, q_vOr_s, q_vIf_k, q_tAnd_t, q_tAnd_f, q_tOr_t, q_tOr_f, q_vAnd_t, q_vAnd_f, q_vOr_t, q_vOr_f, q_vIf_t, q_vIf_f, at0, at1, at2, at3, at4, at5, at6, atLast, st0, st1, st2, st3, st4, bIf_t, bIf_f, true_and, and_true, Bool.not_true, Bool.not_false, Bool.true_and, Bool.false_and, Bool.and_true, Bool.and_false, Bool.true_or, Bool.or_true, Bool.false_or, Bool.or_false, Bool.not_not, decide_true, decide_false, List.length_cons, List.cons_append, List.nil_append, List.length_nil, List.length_map, List.length_append, isi_non_int, isi_non_bool, isi_non_str, isi_non_list, isi_non_tuple, isi_non_dict, isi_bl_int, isi_bl_bool, isi_bl_str, isi_bl_list, isi_bl_tuple, isi_bl_dict, isi_int_int, isi_int_bool, isi_int_str, isi_int_list, isi_int_tuple, isi_int_dict, isi_str_int, isi_str_bool, isi_str_str, isi_str_list, isi_str_tuple, isi_str_dict, isi_lst_int, isi_lst_bool, isi_lst_str, isi_lst_list, isi_lst_tuple, isi_lst_dict, isi_tup_int, isi_tup_bool, isi_tup_str, isi_tup_list, isi_tup_tuple, isi_tup_dict, isi_dct_int, isi_dct_bool, isi_dct_str, isi_dct_list, isi_dct_tuple, isi_dct_dict])
def isW : PyData → Bool
  | .int _ => true
  | _ => false
def isIn (a : PyData) (l m : Int) : Bool := match a with
  | .int i => decide (l ≤ i) && decide (i ≤ m)
  | _ => false
def areW (a : PyData) (n : Int) : Bool := match a with
  | .tuple ds => decide ((ds.length : Int) = n) && ds.all isW
  | _ => false
def isFr (a : PyData) : Bool := match a with
  | .tuple [.int p, .int q] => decide (0 < q) && decide (Int.gcd p q = 1)
  | _ => false
def isPart (a : PyData) : Bool := match a with
  | .tuple [.int p, .int q] => isFr a && (decide (0 ≤ p) && decide (p ≤ q))
  | _ => false
structure Sale (g c r h b p q : Int) : Prop where
  g0 : 0 ≤ g
  g1 : g ≤ 10 ^ 12
  c0 : 0 ≤ c
  c1 : c ≤ 10 ^ 12
  r0 : 0 ≤ r
  r1 : r ≤ 10000
  h0 : 0 ≤ h
  h1 : h ≤ 1000
  b0 : 0 ≤ b
  b1 : b ≤ 10 ^ 9
  p0 : 0 ≤ p
  pq : p ≤ q
  q0 : 0 < q
  q1 : q ≤ 10 ^ 40
  co : Int.gcd p q = 1
structure SaleB (g c r h b p q : Int) : Prop where
  g0 : 0 ≤ g
  g1 : g ≤ 10 ^ 70
  c0 : 0 ≤ c
  c1 : c ≤ 10 ^ 12
  r0 : 0 ≤ r
  r1 : r ≤ 10000
  h0 : 0 ≤ h
  h1 : h ≤ 1000
  b0 : 0 ≤ b
  b1 : b ≤ 10 ^ 9
  p0 : 0 ≤ p
  pq : p ≤ q
  q0 : 0 < q
  q1 : q ≤ 10 ^ 40
theorem Sale.B {g c r h b p q : Int} (s : Sale g c r h b p q) : SaleB g c r h b p q := ⟨s.g0, Int.le_trans s.g1 (by decide), s.c0, s.c1, s.r0, s.r1, s.h0, s.h1, s.b0, s.b1, s.p0, s.pq, s.q0, s.q1⟩
def saleD (g c r h b p q : Int) : PyData := .tuple [.int g, .int c, .int r, .int h, .int b, .tuple [.int p, .int q]]
def paid (g c : Int) : Int := if g < c then g else c
def caps (g c p q : Int) : Int := (g - paid g c) * p / q
def pot (g c h b p q : Int) : Int := caps g c p q + h * b
def fee (g c r h b p q : Int) : Int := pot g c h b p q * r / 10000
def PotOk (n : Int) (xs : List PyData) : Prop := ∃ g s t : Int, xs = [.int g, .int s, .int t] ∧ 0 ≤ s ∧ s ≤ 10 ^ 12 ∧ 0 ≤ t ∧ t ≤ n
theorem PotOk.mono {n m : Int} {xs : List PyData} (h : PotOk n xs) (e : n ≤ m) : PotOk m xs := by
  obtain ⟨g, s, t, h1, h2, h3, h4, h5⟩ := h
  exact ⟨g, s, t, h1, h2, h3, h4, by omega⟩
theorem gcd_step (i j : Int) (h0 : 0 < j) (hi : 0 ≤ i) : Int.gcd j (i % j) = Int.gcd i j := by
  obtain ⟨a, rfl⟩ := Int.eq_ofNat_of_zero_le hi
  obtain ⟨b, rfl⟩ := Int.eq_ofNat_of_zero_le (Int.le_of_lt h0)
  have e : ((a : Int) % (b : Int)) = ((a % b : Nat) : Int) := by simp
  rw [e]
  show Nat.gcd b (a % b) = Nat.gcd a b
  rw [Nat.gcd_comm a b, Nat.gcd_comm b (a % b)]
  exact (Nat.gcd_rec b a).symm
theorem part_true {p q : Int} (h0 : 0 ≤ p) (h1 : p ≤ q) (h2 : 0 < q) (h3 : Int.gcd p q = 1) : isPart (.tuple [.int p, .int q]) = true := by
  simp [isPart, isFr, h0, h1, h2, h3]
theorem caps_le {x p q : Int} (h0 : 0 ≤ x) (h1 : 0 ≤ p) (h2 : p ≤ q) (h3 : 0 < q) : 0 ≤ x * p / q ∧ x * p / q ≤ x := by
  refine ⟨Int.ediv_nonneg (Int.mul_nonneg h0 h1) (by omega), ?_⟩
  have : x * p ≤ x * q := Int.mul_le_mul_of_nonneg_left h2 h0
  exact Int.le_trans (Int.ediv_le_ediv h3 this) (by rw [Int.mul_ediv_cancel _ (by omega)]; exact Int.le_refl x)
theorem paid_in {g c : Int} (h0 : 0 ≤ g) (h1 : 0 ≤ c) : 0 ≤ paid g c ∧ paid g c ≤ g := by
  unfold paid
  split <;> omega
theorem sale_caps {g c r h b p q : Int} (s : Sale g c r h b p q) : 0 ≤ caps g c p q ∧ caps g c p q ≤ 10 ^ 12 := by
  have h1 := paid_in s.g0 s.c0
  have h2 := s.g1
  have h3 := caps_le (x := g - paid g c) (by omega) s.p0 s.pq s.q0
  unfold caps
  constructor
  · exact h3.1
  · exact Int.le_trans h3.2 (by omega)
theorem sale_pot {g c r h b p q : Int} (s : Sale g c r h b p q) : 0 ≤ pot g c h b p q ∧ pot g c h b p q ≤ 10 ^ 13 := by
  have h1 := sale_caps s
  have h2 : 0 ≤ h * b := Int.mul_nonneg s.h0 s.b0
  have h3 : h * b ≤ 1000 * 10 ^ 9 := Int.mul_le_mul s.h1 s.b1 s.b0 (by decide)
  unfold pot
  constructor <;> omega
theorem mem3 {α : Type} {x a b c : α} (h : x ∈ [a, b, c]) : x = a ∨ x = b ∨ x = c := by simpa using h
theorem mem4 {α : Type} {x a b c d : α} (h : x ∈ [a, b, c, d]) : x = a ∨ x = b ∨ x = c ∨ x = d := by simpa using h
theorem mem5 {α : Type} {x a b c d e : α} (h : x ∈ [a, b, c, d, e]) : x = a ∨ x = b ∨ x = c ∨ x = d ∨ x = e := by simpa using h
theorem gcd_one (p q : Int) (h0 : 0 ≤ p) (h1 : 0 < q) : Int.gcd (p / (Int.gcd p q : Nat)) (q / (Int.gcd p q : Nat)) = 1 := by
  obtain ⟨a, rfl⟩ := Int.eq_ofNat_of_zero_le h0
  obtain ⟨b, rfl⟩ := Int.eq_ofNat_of_zero_le (Int.le_of_lt h1)
  have hb : 0 < b := by omega
  have e1 : ((a : Int) / ((Int.gcd a b : Nat) : Int)) = ((a / Nat.gcd a b : Nat) : Int) := by
    show ((a : Int) / ((Nat.gcd a b : Nat) : Int)) = _
    simp
  have e2 : ((b : Int) / ((Int.gcd a b : Nat) : Int)) = ((b / Nat.gcd a b : Nat) : Int) := by
    show ((b : Int) / ((Nat.gcd a b : Nat) : Int)) = _
    simp
  rw [e1, e2]
  show Nat.gcd (a / Nat.gcd a b) (b / Nat.gcd a b) = 1
  rw [Nat.gcd_div (Nat.gcd_dvd_left a b) (Nat.gcd_dvd_right a b)]
  exact Nat.div_self (Nat.gcd_pos_of_pos_right a hb)
def leastPot (r n : Int) : PyData := if n = 0 then .int 0 else if r = 10000 then .none else .int ((n - 1) * 10000 / (10000 - r) + 1)
def leastGross (c r h b p q n : Int) : PyData := match leastPot r n with
  | .int m => if m - h * b ≤ 0 then .int 0 else if p = 0 then .none else .int (c + ((m - h * b) * q - 1) / p + 1)
  | _ => .none
def sharedOf (g c r h b p q : Int) : Int := pot g c h b p q - fee g c r h b p q
theorem mem7 {α : Type} {x a b c d e f g : α} (h : x ∈ [a, b, c, d, e, f, g]) : x = a ∨ x = b ∨ x = c ∨ x = d ∨ x = e ∨ x = f ∨ x = g := by simpa using h
theorem Sale.sh {g c r h b p q : Int} (s : Sale g c r h b p q) : 0 ≤ sharedOf g c r h b p q ∧ sharedOf g c r h b p q ≤ 10 ^ 13 := by
  have h1 := sale_pot s
  have h2 := caps_le (x := pot g c h b p q) h1.1 s.r0 s.r1 (by decide : (0 : Int) < 10000)
  unfold sharedOf fee
  omega
theorem Sale.zero {g c r h b p q : Int} (s : Sale g c r h b p q) : Sale 0 c r h b p q := ⟨by omega, by omega, s.c0, s.c1, s.r0, s.r1, s.h0, s.h1, s.b0, s.b1, s.p0, s.pq, s.q0, s.q1, s.co⟩
theorem is_whole_q (a : PyData) (K : PyData → Prop) : q_is_whole a K = K (.bool (isW a)) := by
  cases a with
  | dict kv => rcases kv with _ | ⟨⟨kz, vz⟩, rz⟩ <;> (try cases kz) <;> rfl
  | _ => rfl
theorem is_within_q (a : PyData) (l m : Int) (K : PyData → Prop) : q_is_within a (.int l) (.int m) K = K (.bool (isIn a l m)) := by
  unfold q_is_within
  simp only [is_whole_q]
  cases a <;> simp only [isW, isIn] <;> walk_at "q"
def isFrom (a : PyData) (l : Int) : Bool := match a with
  | .int i => decide (l ≤ i)
  | _ => false
theorem is_from_q (a : PyData) (l : Int) (K : PyData → Prop) : q_is_from a (.int l) K = K (.bool (isFrom a l)) := by
  unfold q_is_from
  simp only [is_whole_q]
  cases a <;> simp only [isW, isFrom] <;> walk_at "q"
def short (a : PyData) : Prop := match a with
  | .tuple ds => ds.length ≤ 100000
  | _ => True
theorem are_wholes_q (a : PyData) (n : Int) (hs : short a) (K : PyData → Prop) (h : K (.bool (areW a n))) : q_are_wholes a (.int n) K := by
  unfold q_are_wholes
  cases a with
  | tuple ds =>
    walk_at "q"
    by_cases hn : (ds.length : Int) = n
    · rw [decide_eq_true hn]
      walk_at "q"
      refine qLc_map (fun d => .bool (isW d)) hs (fun d hd sk yd hy => ?_) ?_
      · unfold qb_are_wholes_1
        rw [is_whole_q]
        exact hy
      · walk_at "q"
        have e : areW (.tuple ds) n = ds.all isW := by simp only [areW, hn, decide_true, Bool.true_and]
        rw [e] at h
        exact h
    · rw [decide_eq_false hn]
      walk_at "q"
      have e : areW (.tuple ds) n = false := by simp only [areW, hn, decide_false, Bool.false_and]
      rw [e] at h
      exact h
  | dict kv => rcases kv with _ | ⟨⟨kz, vz⟩, rz⟩ <;> (try cases kz) <;> (walk_at "q"; exact h)
  | _ => walk_at "q"; exact h
theorem divisor_of_q (i j : Int) (K : PyData → Prop) (h : K (.int (Int.gcd i j : Nat))) : q_divisor_of (.int i) (.int j) K := by
  unfold q_divisor_of
  walk_at "q"
  have ea : (if i < 0 then -i else i) = (i.natAbs : Int) := by split <;> omega
  have eb : (if j < 0 then -j else j) = (j.natAbs : Int) := by split <;> omega
  rw [ea, eb]
  refine qWhile_ind (m := j.natAbs) (fun m s => ∃ a b : Int, s = (.int a, .int b) ∧ 0 ≤ a ∧ 0 ≤ b ∧ b.toNat = m ∧ Int.gcd a b = Int.gcd i j) ⟨_, _, rfl, by omega, by omega, by omega, by simp [Int.gcd]⟩ ?_
  rintro m _ nx ⟨a, b, rfl, ha, hb, hm, hg⟩ hn
  unfold qb_divisor_of_1
  walk_at "q"
  refine bIf_d (fun h0 => ?_) fun h0 => ?_
  · walk_at "go"
    have hm1 := Int.emod_lt_of_pos a h0
    have hm0 := Int.emod_nonneg a (by omega : b ≠ 0)
    exact hn (a % b).toNat _ (by omega) ⟨b, a % b, rfl, by omega, hm0, rfl, by rw [gcd_step a b h0 ha]; exact hg⟩
  · have e : b = 0 := by omega
    subst e
    have : Int.gcd a 0 = a.natAbs := Int.gcd_zero_right a
    rw [← hg, this] at h
    have e2 : ((a.natAbs : Nat) : Int) = a := by omega
    rw [e2] at h
    exact h
theorem is_fraction_q (a : PyData) (hs : short a) (K : PyData → Prop) (h : K (.bool (isFr a))) : q_is_fraction a K := by
  unfold q_is_fraction
  refine are_wholes_q a 2 hs _ ?_
  walk_at "q"
  cases e : areW a 2 with
  | false =>
    have : isFr a = false := by
      unfold isFr
      split
      · exact absurd e (by simp [areW, isW])
      · rfl
    rw [this] at h
    exact h
  | true =>
    obtain ⟨p, q, rfl⟩ : ∃ p q, a = .tuple [.int p, .int q] := by
      unfold areW at e
      split at e
      · rename_i ds
        simp only [Bool.and_eq_true, decide_eq_true_eq] at e
        obtain ⟨h1, h2⟩ := e
        match ds, h1, h2 with
        | [x, y], _, h2 =>
          simp only [List.all_cons, List.all_nil, Bool.and_true, Bool.and_eq_true] at h2
          cases x <;> cases y <;> first | exact ⟨_, _, rfl⟩ | (exfalso; have := h2.1; have := h2.2; simp [isW] at *)
        | [], h1, _ => simp at h1
        | [_], h1, _ => simp at h1
        | _ :: _ :: _ :: _, h1, _ => simp at h1; omega
      · cases e
    walk_at "q"
    by_cases h1 : 0 < q
    · rw [decide_eq_true h1]
      walk_at "q"
      refine divisor_of_q p q _ ?_
      walk_at "q"
      have e2 : isFr (.tuple [.int p, .int q]) = decide ((Int.gcd p q : Int) = 1) := by
        simp only [isFr, h1, decide_true, Bool.true_and]
        exact decide_eq_decide.mpr ⟨fun h => by omega, fun h => by omega⟩
      rw [e2] at h
      exact h
    · rw [decide_eq_false h1]
      walk_at "q"
      have e2 : isFr (.tuple [.int p, .int q]) = false := by simp only [isFr, h1, decide_false, Bool.false_and]
      rw [e2] at h
      exact h
theorem least_pot_q {r n : Int} (r0 : 0 ≤ r) (r1 : r ≤ 10000) (n0 : 0 ≤ n) (n1 : n ≤ 10 ^ 16) (K : PyData → Prop) (hK : K (leastPot r n)) : q_least_pot (.int r) (.int n) K := by
  unfold q_least_pot
  walk_at "q"
  unfold leastPot at hK
  by_cases h1 : n = 0
  · rw [decide_eq_true h1]
    rw [if_pos h1] at hK
    exact hK
  · rw [decide_eq_false h1]
    rw [if_neg h1] at hK
    walk_at "q"
    by_cases h2 : r = 10000
    · rw [decide_eq_true h2]
      rw [if_pos h2] at hK
      exact hK
    · rw [decide_eq_false h2]
      rw [if_neg h2] at hK
      walk_at "go"
      exact hK
theorem law_pot_q (ns : List Int) (hn : ns.length ≤ 63) (k : Int) (k0 : 0 ≤ k) (k1 : k ≤ 1000) (K : List PyData → Prop) (h : ∀ xs, PotOk 0 xs → K xs) : q_law_pot (.list (ns.map .int)) (.int k) K := by
  unfold q_law_pot
  walk_at "q"
  refine ⟨by walk_at "side", ?_⟩
  have fin : ∀ c : Int, ((Sz 10 ∧ 0 ≤ (18 : Int) ∧ (18 : Int) ≤ 10000) ∧ (Sz 10 ∧ 0 ≤ (60 : Int) ∧ (60 : Int) ≤ 10000) ∧ (Sz (10 ^ Int.toNat 60) ∧ 0 ≤ (10 : Int) ∧ (10 : Int) ≤ 10000) ∧ (0 : Int) < (10 ^ Int.toNat 60) ^ Int.toNat 10 ∧
      (0 : Int) < 2147483629 ∧ (Sz 9973 ∧ Sz k) ∧ K [.int ((if c - 10 ^ Int.toNat 18 > 0 then c - 10 ^ Int.toNat 18 else 0) % (10 ^ Int.toNat 60) ^ Int.toNat 10), .int (c % 2147483629 + 9973 * k), .int 0]) := fun c => by
    have z := sz_of (i := 10) (by decide) (by decide)
    have b1 := Int.emod_nonneg c (by decide : (2147483629 : Int) ≠ 0)
    have b2 := Int.emod_lt_of_pos c (by decide : (0 : Int) < 2147483629)
    refine ⟨⟨z, by decide, by decide⟩, ⟨z, by decide, by decide⟩, ⟨sz_of (by decide) (by decide), by decide, by decide⟩, by decide +kernel, by decide, ⟨sz_of (by decide) (by decide), sz_of (by omega) (by omega)⟩, ?_⟩
    exact h _ ⟨_, _, _, rfl, by omega, by omega, by decide, by decide⟩
  refine bIf_d (fun hk => ?_) fun hk => fin _
  refine pick_mem k0 (by simpa using hk) fun d mem => ?_
  obtain ⟨c, _, rfl⟩ := List.mem_map.mp mem
  exact fin c
theorem law_take_q {n m : Int} {xs : List PyData} (hp : PotOk n xs) (hn : n ≤ 10 ^ 6) (m0 : 0 < m) (m1 : m ≤ 10 ^ 50) (K : PyData → List PyData → Prop) (h : ∀ r xs', 0 ≤ r → r < m → PotOk (n + 1) xs' → K (.int r) xs') : q_law_take xs (.int m) K := by
  obtain ⟨g, s, t, rfl, s0, s1, t0, t1⟩ := hp
  unfold q_law_take
  walk_at "q"
  refine bIf_d (fun h0 => ?_) fun h0 => ?_
  · walk_at "sides"
    exact h _ _ (Int.emod_nonneg _ (by omega)) (Int.emod_lt_of_pos _ m0) ⟨_, s, t, rfl, s0, s1, t0, by omega⟩
  · have b1 := Int.emod_nonneg ((s + 104729 * (t + 1) + 11) ^ Int.toNat 5) (by decide : (2147483647 : Int) ≠ 0)
    have b2 := Int.emod_lt_of_pos ((s + 104729 * (t + 1) + 11) ^ Int.toNat 5) (by decide : (0 : Int) < 2147483647)
    generalize (s + 104729 * (t + 1) + 11) ^ Int.toNat 5 % 2147483647 = A at b1 b2 ⊢
    have q1 : (7919 * (t + 1)) * (t + 1) ≤ (7919 * (10 ^ 6 + 1)) * (10 ^ 6 + 1) := Int.mul_le_mul (by omega) (by omega) (by omega) (by decide)
    have q0 : 0 ≤ (7919 * (t + 1)) * (t + 1) := Int.mul_nonneg (by omega) (by omega)
    have b3 := Int.emod_nonneg ((A / 8 + 7919 * (t + 1) * (t + 1) + 3) ^ Int.toNat 3) (by decide : (2147483587 : Int) ≠ 0)
    have b4 := Int.emod_lt_of_pos ((A / 8 + 7919 * (t + 1) * (t + 1) + 3) ^ Int.toNat 3) (by decide : (0 : Int) < 2147483587)
    generalize 7919 * (t + 1) * (t + 1) = B at q0 q1 b3 b4 ⊢
    generalize (A / 8 + B + 3) ^ Int.toNat 3 % 2147483587 = C at b3 b4 ⊢
    walk_at "sides"
    exact h _ _ (Int.emod_nonneg _ (by omega)) (Int.emod_lt_of_pos _ m0) ⟨g, s, t + 1, rfl, s0, s1, by omega, by omega⟩
theorem law_fraction_q {p q : Int} (p0 : 0 ≤ p) (q0 : 0 < q) (q1 : q ≤ 10 ^ 50) (K : PyData → Prop) (h : K (.tuple [.int (p / (Int.gcd p q : Nat)), .int (q / (Int.gcd p q : Nat))])) : q_law_fraction (.int p) (.int q) K := by
  unfold q_law_fraction
  walk_at "q"
  rw [if_neg (show ¬ p < 0 by omega)]
  refine qWhile_ind (m := q.toNat) (fun m s => ∃ a b : Int, s = (.int a, .int b) ∧ 0 ≤ a ∧ 0 ≤ b ∧ b.toNat = m ∧ Int.gcd a b = Int.gcd p q) ⟨_, _, rfl, p0, by omega, rfl, rfl⟩ ?_
  rintro m _ nx ⟨a, b, rfl, ha, hb, hm, hg⟩ hn
  unfold qb_law_fraction_1
  walk_at "q"
  refine bIf_d (fun h0 => ?_) fun h0 => ?_
  · walk_at "go"
    have hm1 := Int.emod_lt_of_pos a h0
    have hm0 := Int.emod_nonneg a (by omega : b ≠ 0)
    exact hn (a % b).toNat _ (by omega) ⟨b, a % b, rfl, by omega, hm0, rfl, by rw [gcd_step a b h0 ha]; exact hg⟩
  · have e : b = 0 := by omega
    subst e
    have e1 : Int.gcd a 0 = a.natAbs := Int.gcd_zero_right a
    have e2 : ((a.natAbs : Nat) : Int) = a := by omega
    have e3 : a = (Int.gcd p q : Nat) := by rw [← hg, e1, e2]
    have g0 : 0 < Int.gcd p q := Int.gcd_pos_of_ne_zero_right p (by omega)
    have g1 : (Int.gcd p q : Int) ≤ q := Int.le_of_dvd q0 (Int.gcd_dvd_right p q)
    rw [e3]
    walk_at "go"
    exact h
theorem law_number_q {n m : Int} {xs : List PyData} (hp : PotOk n xs) (hn : n ≤ 10 ^ 5) (m0 : 0 ≤ m) (m1 : m ≤ 10 ^ 40) (K : PyData → List PyData → Prop) (h : ∀ r xs', 0 ≤ r → r ≤ m → PotOk (n + 3) xs' → K (.int r) xs') : q_law_number xs (.int m) K := by
  unfold q_law_number
  walk_at "q"
  refine law_take_q hp (by omega) (by decide) (by decide) _ fun way xs1 w0 w1 hp => ?_
  refine law_take_q hp (by omega) (by decide) (by decide) _ fun few xs2 f0 f1 hp => ?_
  walk_at "q"
  refine law_take_q hp (by omega) (by omega) (by omega) _ fun r xs3 r0 r1 hp => ?_
  have b0 := Int.emod_nonneg few (by decide : (3 : Int) ≠ 0)
  have b1 := Int.emod_lt_of_pos few (by decide : (0 : Int) < 3)
  have c0 := Int.emod_nonneg few (by decide : (7 : Int) ≠ 0)
  have c1 := Int.emod_lt_of_pos few (by decide : (0 : Int) < 7)
  have z := sz_of (i := 10) (by decide) (by decide)
  have hp2 : PotOk (n + 3) xs3 := hp.mono (by omega)
  have fin : ∀ a : Int, 0 ≤ a → a ≤ m → K (.int a) xs3 := fun a a0 a1 => h a xs3 a0 a1 hp2
  walk_at "go"
  refine pick_mem c0 (by simpa using c1) fun d hd => ?_
  obtain ⟨c, rfl, k0⟩ : ∃ c : Int, d = .int c ∧ 0 ≤ c := by
    rcases mem7 hd with rfl | rfl | rfl | rfl | rfl | rfl | rfl <;> exact ⟨_, rfl, by decide⟩
  walk_at "q"
  refine pick_mem w0 (by simpa using w1) fun d hd => ?_
  rcases mem5 hd with rfl | rfl | rfl | rfl | rfl
  · exact fin _ (by decide) m0
  · exact fin _ (by split <;> omega) (by split <;> omega)
  · exact fin _ r0 (by omega)
  · exact fin _ (by split <;> omega) (by split <;> omega)
  · exact fin _ (by split <;> omega) (by split <;> omega)
theorem isi_tp {d : PyData} (h : isiB d "tuple" = true) : ∃ xs, d = .tuple xs := by
  cases d with
  | tuple xs => exact ⟨xs, rfl⟩
  | dict kv => rcases kv with _ | ⟨⟨kz, vz⟩, rz⟩ <;> (try cases kz) <;> cases h
  | _ => cases h
theorem len2 {xs : List PyData} (h : xs.length = 2) : ∃ a b, xs = [a, b] := by
  match xs, h with
  | [a, b], _ => exact ⟨a, b, rfl⟩
/-- whole numbers of few figures -/
def FewF (x : PyData) : Prop := match x with
  | .int i => -(10 ^ 40) ≤ i ∧ i ≤ 10 ^ 40
  | _ => True
def FewT (x : PyData) : Prop := match x with
  | .tuple ds => ds.length ≤ 1000 ∧ ∀ y ∈ ds, FewF y
  | _ => FewF x
/-- a thing of few parts, each of few parts -/
def ThO (d : PyData) : Prop := match d with
  | .tuple ds => ds.length ≤ 1000 ∧ ∀ x ∈ ds, FewT x
  | _ => True
theorem FewT.short {x : PyData} (h : FewT x) : short x := by
  cases x with
  | tuple ds => exact Nat.le_trans h.1 (by decide)
  | _ => trivial
theorem ThO.sh {ds : List PyData} (h : ThO (.tuple ds)) (x : PyData) (hx : x ∈ ds) : short x := (h.2 x hx).short
/-- a part -/
theorem isPart_no {d : PyData} (h : isiB d "tuple" = false) : isPart d = false := by
  cases d with
  | tuple xs => cases h
  | _ => rfl
theorem is_part_g (d : PyData) (hs : short d) (K : PyData → Prop) (h : K (.bool (isPart d))) : q_is_part d K := by
  unfold q_is_part
  refine is_fraction_q d hs _ ?_
  cases e : isFr d with
  | false =>
    walk_at "q"
    have : isPart d = false := by
      unfold isPart
      split
      · rw [e, Bool.false_and]
      · rfl
    rw [this] at h
    exact h
  | true =>
    walk_at "q"
    unfold isFr at e
    split at e
    · rename_i p q
      have e2 : isPart (.tuple [.int p, .int q]) = (decide (0 ≤ p) && decide (p ≤ q)) := by
        show (isFr (.tuple [.int p, .int q]) && _) = _
        have : isFr (.tuple [.int p, .int q]) = true := e
        rw [this, Bool.true_and]
      rw [e2] at h
      walk_at "q"
      exact h
    · cases e
/-- a sale -/
def isSl : PyData → Bool
  | .tuple [g, c, r, h, b, p] => isPart p && (isIn g 0 1000000000000 && (isIn c 0 1000000000000 && (isIn r 0 10000 && (isIn h 0 1000 && isIn b 0 1000000000))))
  | _ => false
theorem isSl_no {d : PyData} (h : isiB d "tuple" = false) : isSl d = false := by
  cases d with
  | tuple xs => cases h
  | _ => rfl
theorem isSl_len {xs : List PyData} (h : xs.length ≠ 6) : isSl (.tuple xs) = false := by
  unfold isSl
  split
  · rename_i e
    cases e
    exact absurd rfl h
  · rfl
theorem len6 {xs : List PyData} (h : xs.length = 6) : ∃ a b c d e f, xs = [a, b, c, d, e, f] := by
  match xs, h with
  | [a, b, c, d, e, f], _ => exact ⟨_, _, _, _, _, _, rfl⟩
def wiD : PyData → PyData
  | .tuple [d, .int m] => .bool (isIn d 0 m)
  | _ => .bool false
theorem is_sale_g (d : PyData) (hs : ThO d) (K : PyData → Prop) (h : K (.bool (isSl d))) : q_is_sale d K := by
  unfold q_is_sale
  cases e : isiB d "tuple" with
  | false =>
    rw [isSl_no e] at h
    walk_at "q"
    exact h
  | true =>
    obtain ⟨xs, rfl⟩ := isi_tp e
    walk_at "q"
    by_cases hl : xs.length = 6
    · obtain ⟨g, c, r, hh, bb, p, rfl⟩ := len6 hl
      have hp := hs.sh p (by simp)
      have e0 : isSl (.tuple [g, c, r, hh, bb, p]) = (isPart p && (isIn g 0 1000000000000 && (isIn c 0 1000000000000 && (isIn r 0 10000 && (isIn hh 0 1000 && isIn bb 0 1000000000))))) := rfl
      rw [e0] at h
      walk_at "q"
      rw [decide_eq_true (show (((0 + 1 + 1 + 1 + 1 + 1 + 1 : Nat) : Int) = 6) from rfl)]
      walk_at "q"
      refine is_part_g p hp _ ?_
      cases ep : isPart p with
      | false =>
        rw [ep] at h
        walk_at "q"
        exact h
      | true =>
        rw [ep, Bool.true_and] at h
        walk_at "q"
        refine qLc_map wiD (by simp [zipD]) (fun d hd sk yd hy => ?_) ?_
        · simp only [zipD, List.mem_cons, List.not_mem_nil, or_false] at hd
          unfold qb_is_sale_1
          rcases hd with rfl | rfl | rfl | rfl | rfl <;> (walk_at "q"; rw [is_within_q]; exact hy)
        · have em : (zipD [g, c, r, hh, bb, p] [.int 1000000000000, .int 1000000000000, .int 10000, .int 1000, .int 1000000000]).map wiD = [PyData.bool (isIn g 0 1000000000000), .bool (isIn c 0 1000000000000), .bool (isIn r 0 10000), .bool (isIn hh 0 1000), .bool (isIn bb 0 1000000000)] := rfl
          rw [em]
          have eb : [PyData.bool (isIn g 0 1000000000000), .bool (isIn c 0 1000000000000), .bool (isIn r 0 10000), .bool (isIn hh 0 1000), .bool (isIn bb 0 1000000000)] = [isIn g 0 1000000000000, isIn c 0 1000000000000, isIn r 0 10000, isIn hh 0 1000, isIn bb 0 1000000000].map fun t => PyData.bool t := rfl
          have eb2 : ([isIn g 0 1000000000000, isIn c 0 1000000000000, isIn r 0 10000, isIn hh 0 1000, isIn bb 0 1000000000].map fun t => PyData.bool t) = ([isIn g 0 1000000000000, isIn c 0 1000000000000, isIn r 0 10000, isIn hh 0 1000, isIn bb 0 1000000000].map fun t => PyData.bool t).map fun d => .bool (match d with | .bool t => t | _ => false) := by rw [List.map_map]; rfl
          rw [eb, eb2, q_allB]
          simpa only [List.map_cons, List.map_nil, List.all_cons, List.all_nil, Bool.and_true] using h
    · rw [decide_eq_false (show ¬ ((xs.length : Int) = 6) by omega)]
      rw [isSl_len hl] at h
      walk_at "q"
      exact h
theorem for1 {x : PyData} {m : Int} {K : PyData → Prop} {i : PyData} {s : Unit} {nx bk : PyData → Unit → Prop} (h1 : isIn x 0 m = true → nx i ()) (h0 : isIn x 0 m = false → K (.bool false)) : qb_law_is_sale_1 K (.tuple [x, .int m]) i s nx bk := by
  unfold qb_law_is_sale_1
  walk_at "q"
  cases x with
  | int v =>
    walk_at "q"
    have e : isIn (.int v) 0 m = (decide (0 ≤ v) && decide (v ≤ m)) := rfl
    rw [e] at h1 h0
    cases c : (decide (0 ≤ v) && decide (v ≤ m)) with
    | true => exact h1 c
    | false => exact h0 c
  | dict kv => rcases kv with _ | ⟨⟨kz, vz⟩, rz⟩ <;> (try cases kz) <;> (walk_at "q"; exact h0 rfl)
  | _ => walk_at "q"; exact h0 rfl
theorem for2 {x : PyData} {K : PyData → Prop} {i : PyData} {s : Unit} {nx bk : PyData → Unit → Prop} (h1 : isW x = true → nx i ()) (h0 : isW x = false → K (.bool false)) : qb_law_is_sale_2 K x i s nx bk := by
  unfold qb_law_is_sale_2
  cases x with
  | int v => walk_at "q"; exact h1 rfl
  | dict kv => rcases kv with _ | ⟨⟨kz, vz⟩, rz⟩ <;> (try cases kz) <;> (walk_at "q"; exact h0 rfl)
  | _ => walk_at "q"; exact h0 rfl
theorem qFor_c {I S : Type} {b : PyData → I → S → (I → S → Prop) → (I → S → Prop) → Prop} {i : I} {d : PyData} {r : List PyData} {s : S} {K : S → Prop} : qFor b i (d :: r) s K = b d i s (same i fun s => qFor b i r s K) (same i K) := rfl
theorem qFor_n {I S : Type} {b : PyData → I → S → (I → S → Prop) → (I → S → Prop) → Prop} {i : I} {s : S} {K : S → Prop} : qFor b i [] s K = K s := rfl
theorem isPart_len {xs : List PyData} (h : xs.length ≠ 2) : isPart (.tuple xs) = false := by
  unfold isPart
  split
  · rename_i e
    cases e
    exact absurd rfl h
  · rfl
theorem isPart_w {u v : PyData} (h : (isW u && isW v) = false) : isPart (.tuple [u, v]) = false := by
  unfold isPart
  split
  · rename_i e
    cases e
    cases h
  · rfl
theorem law_is_sale_g (d : PyData) (hs : ThO d) (K : PyData → Prop) (h : K (.bool (isSl d))) : q_law_is_sale d K := by
  unfold q_law_is_sale
  cases e : isiB d "tuple" with
  | false =>
    rw [isSl_no e] at h
    walk_at "q"
    exact h
  | true =>
    obtain ⟨xs, rfl⟩ := isi_tp e
    walk_at "q"
    by_cases hl : xs.length = 6
    · obtain ⟨g, c, r, hh, bb, p, rfl⟩ := len6 hl
      have hp := hs.2 p (by simp)
      have e0 : isSl (.tuple [g, c, r, hh, bb, p]) = (isPart p && (isIn g 0 1000000000000 && (isIn c 0 1000000000000 && (isIn r 0 10000 && (isIn hh 0 1000 && isIn bb 0 1000000000))))) := rfl
      rw [e0] at h
      walk_at "q"
      rw [decide_eq_true (show (((0 + 1 + 1 + 1 + 1 + 1 + 1 : Nat) : Int) = 6) from rfl)]
      walk_at "q"
      have z10 : Sz 10 := sz_of (by decide) (by decide)
      refine ⟨⟨z10, by decide, by decide⟩, ⟨z10, by decide, by decide⟩, ⟨z10, by decide, by decide⟩, ?_⟩
      rw [q_zip2TL]
      rw [show (10 : Int) ^ Int.toNat 12 = 1000000000000 by decide, show (10 : Int) ^ Int.toNat 9 = 1000000000 by decide]
      simp only [zipD]
      have no : ∀ b : Bool, (isPart p && (isIn g 0 1000000000000 && (isIn c 0 1000000000000 && (isIn r 0 10000 && (isIn hh 0 1000 && isIn bb 0 1000000000))))) = b → b = false → K (.bool false) := fun b e z => by rw [e, z] at h; exact h
      try dsimp only
      rw [qFor_c]
      refine for1 (fun h1 => ⟨rfl, ?_⟩) fun h1 => no _ rfl (by simp [h1])
      try dsimp only
      rw [qFor_c]
      refine for1 (fun h2 => ⟨rfl, ?_⟩) fun h2 => no _ rfl (by simp [h2])
      try dsimp only
      rw [qFor_c]
      refine for1 (fun h3 => ⟨rfl, ?_⟩) fun h3 => no _ rfl (by simp [h3])
      try dsimp only
      rw [qFor_c]
      refine for1 (fun h4 => ⟨rfl, ?_⟩) fun h4 => no _ rfl (by simp [h4])
      try dsimp only
      rw [qFor_c]
      refine for1 (fun h5 => ⟨rfl, ?_⟩) fun h5 => no _ rfl (by simp [h5])
      try dsimp only
      rw [qFor_n]
      rw [h1, h2, h3, h4, h5, Bool.and_true, Bool.and_true, Bool.and_true, Bool.and_true, Bool.and_true] at h
      clear no
      walk_at "q"
      cases ep : isiB p "tuple" with
      | false =>
        rw [isPart_no ep] at h
        walk_at "q"
        exact h
      | true =>
        obtain ⟨ps, rfl⟩ := isi_tp ep
        walk_at "q"
        by_cases hl2 : ps.length = 2
        · obtain ⟨u, v, rfl⟩ := len2 hl2
          have hu : FewF u := hp.2 u (by simp)
          have hv : FewF v := hp.2 v (by simp)
          walk_at "q"
          rw [decide_eq_true (show (((0 + 1 + 1 : Nat) : Int) = 2) from rfl)]
          walk_at "q"
          try dsimp only
          rw [qFor_c]
          refine for2 (fun w1 => ⟨rfl, ?_⟩) fun w1 => by rw [isPart_w (by simp [w1])] at h; exact h
          try dsimp only
          rw [qFor_c]
          refine for2 (fun w2 => ⟨rfl, ?_⟩) fun w2 => by rw [isPart_w (by simp [w2])] at h; exact h
          try dsimp only
          rw [qFor_n]
          cases u with
          | int p =>
            cases v with
            | int q =>
              have hP : isPart (.tuple [.int p, .int q]) = ((decide (0 < q) && decide (Int.gcd p q = 1)) && (decide (0 ≤ p) && decide (p ≤ q))) := rfl
              rw [hP] at h
              walk_at "q"
              by_cases a1 : 0 ≤ p
              · rw [decide_eq_true a1] at h ⊢
                walk_at "q"
                by_cases a2 : p ≤ q
                · rw [decide_eq_true a2] at h ⊢
                  walk_at "q"
                  by_cases a3 : q > 0
                  · rw [decide_eq_true a3] at ⊢
                    rw [decide_eq_true (show 0 < q from a3)] at h
                    walk_at "q"
                    have hv2 : q ≤ 10 ^ 50 := by have := hv.2; omega
                    refine law_fraction_q a1 a3 hv2 _ ?_
                    have gp : 0 < Int.gcd p q := Int.gcd_pos_of_ne_zero_right p (by omega)
                    unfold oEq
                    refine ⟨⟨rfl, rfl⟩, ?_⟩
                    have key : eqD (.tuple [.int (p / (Int.gcd p q : Nat)), .int (q / (Int.gcd p q : Nat))]) (.tuple [.int p, .int q]) = decide (Int.gcd p q = 1) := by
                      have e1 : eqD (.tuple [.int (p / (Int.gcd p q : Nat)), .int (q / (Int.gcd p q : Nat))]) (.tuple [.int p, .int q]) = (decide (p / (Int.gcd p q : Nat) = p) && decide (q / (Int.gcd p q : Nat) = q)) := by
                        rw [eqD_eq]
                        simp [PyData.eqv, PyData.eqvAll, BEq.beq]
                      rw [e1, ← Bool.decide_and]
                      refine decide_eq_decide.mpr ⟨fun ⟨_, e2⟩ => ?_, fun e2 => ?_⟩
                      · have e3 := Int.mul_ediv_cancel' (Int.gcd_dvd_right p q)
                        rw [e2] at e3
                        have e4 := Int.eq_one_of_mul_eq_self_left (by omega) e3
                        omega
                      · rw [e2]
                        simp
                    rw [key]
                    rw [Bool.and_true, Bool.true_and, Bool.and_true] at h
                    walk_at "q"
                    exact h
                  · rw [decide_eq_false a3] at ⊢
                    rw [decide_eq_false (show ¬ 0 < q from a3)] at h
                    walk_at "q"
                    exact h
                · rw [decide_eq_false a2] at h ⊢
                  rw [Bool.and_false, Bool.and_false] at h
                  walk_at "q"
                  exact h
              · rw [decide_eq_false a1] at h ⊢
                rw [Bool.false_and, Bool.and_false] at h
                walk_at "q"
                exact h
            | _ => cases w2
          | _ => cases w1
        · rw [decide_eq_false (show ¬ ((ps.length : Int) = 2) by omega)]
          rw [isPart_len hl2] at h
          walk_at "q"
          exact h
    · rw [decide_eq_false (show ¬ ((xs.length : Int) = 6) by omega)]
      rw [isSl_len hl] at h
      walk_at "q"
      exact h
def someOf : PyData → Option PyData
  | .tuple [x, .bool true] => some x
  | _ => none
theorem isvN {c : Str} {P : Bool → Prop} : isvQ (exD c) P = P true := rfl
theorem wstep {i : PyData × PyData} {sk : (PyData × PyData) → Unit → Prop} {yd : PyData → (PyData × PyData) → Unit → Prop} (x : PyData) (b : Bool) (hy : b = true → yd x i ()) (hn : b = false → sk i ()) : qb_law_word_1 (.tuple [x, .bool b]) i () sk yd := by
  unfold qb_law_word_1
  walk_at "q"
  cases b with
  | true => exact hy rfl
  | false => exact hn rfl
theorem some_key (l : List (Str × Bool)) : (l.map fun p => PyData.tuple [.str p.1, .bool p.2]).filterMap someOf = ((l.filter (·.2)).map (·.1)).map .str := by
  induction l with
  | nil => rfl
  | cons p r ih =>
    obtain ⟨x, b⟩ := p
    cases b with
    | true =>
      rw [List.map_cons, List.filterMap_cons, ih]
      rfl
    | false =>
      rw [List.map_cons, List.filterMap_cons, ih]
      rfl
def clsL : List Str := ["NoWeights", "NoPart", "NoNumber", "NoLog", "NoChase", "NoMiles", "NoLogs", "NoTable", "NoSights", "NoSet", "NoRoll", "NoName", "NoHour", "NoScheme", "NoCrew", "NoMan", "NoSale", "NoCrews", "NoPage", "NoPages", "NoPrize", "NoBalances", "NoMoney", "NoChange", "TooMany", "NoText", "NoRow"]
def wrdL : List Str := ["weights", "part", "number", "log", "chase", "miles", "logs", "table", "sights", "set", "roll", "name", "hour", "scheme", "crew", "man", "sale", "crews", "page", "pages", "prize", "balances", "money", "change", "many", "text", "row"]
theorem word_of {c w : Str} (h : ((clsL.zip wrdL).filter fun p => ([p.1] : List Str).any (exSub c)).map (·.2) = [w]) (hw : w.length ≤ 100) (K : PyData → Prop) (hK : K (.str w)) : q_law_word (exD c) K := by
  unfold q_law_word
  simp only [q_isx, isvN]
  generalize e0 : ([("NoWeights" : Str)].any (exSub c)) = b0
  generalize e1 : ([("NoPart" : Str)].any (exSub c)) = b1
  generalize e2 : ([("NoNumber" : Str)].any (exSub c)) = b2
  generalize e3 : ([("NoLog" : Str)].any (exSub c)) = b3
  generalize e4 : ([("NoChase" : Str)].any (exSub c)) = b4
  generalize e5 : ([("NoMiles" : Str)].any (exSub c)) = b5
  generalize e6 : ([("NoLogs" : Str)].any (exSub c)) = b6
  generalize e7 : ([("NoTable" : Str)].any (exSub c)) = b7
  generalize e8 : ([("NoSights" : Str)].any (exSub c)) = b8
  generalize e9 : ([("NoSet" : Str)].any (exSub c)) = b9
  generalize e10 : ([("NoRoll" : Str)].any (exSub c)) = b10
  generalize e11 : ([("NoName" : Str)].any (exSub c)) = b11
  generalize e12 : ([("NoHour" : Str)].any (exSub c)) = b12
  generalize e13 : ([("NoScheme" : Str)].any (exSub c)) = b13
  generalize e14 : ([("NoCrew" : Str)].any (exSub c)) = b14
  generalize e15 : ([("NoMan" : Str)].any (exSub c)) = b15
  generalize e16 : ([("NoSale" : Str)].any (exSub c)) = b16
  generalize e17 : ([("NoCrews" : Str)].any (exSub c)) = b17
  generalize e18 : ([("NoPage" : Str)].any (exSub c)) = b18
  generalize e19 : ([("NoPages" : Str)].any (exSub c)) = b19
  generalize e20 : ([("NoPrize" : Str)].any (exSub c)) = b20
  generalize e21 : ([("NoBalances" : Str)].any (exSub c)) = b21
  generalize e22 : ([("NoMoney" : Str)].any (exSub c)) = b22
  generalize e23 : ([("NoChange" : Str)].any (exSub c)) = b23
  generalize e24 : ([("TooMany" : Str)].any (exSub c)) = b24
  generalize e25 : ([("NoText" : Str)].any (exSub c)) = b25
  generalize e26 : ([("NoRow" : Str)].any (exSub c)) = b26
  walk_at "q"
  rw [q_zipL]
  simp only [zipD]
  iterate 11 refine ⟨by decide, ?_⟩
  refine qLc_fmap someOf ?_ (fun d hd sk yd hy hn => ?_) ?_
  · exact Nat.le_of_ble_eq_true rfl
  · simp only [List.mem_cons, List.not_mem_nil, or_false] at hd
    rcases hd with rfl | rfl | rfl | rfl | rfl | rfl | rfl | rfl | rfl | rfl | rfl | rfl | rfl | rfl | rfl | rfl | rfl | rfl | rfl | rfl | rfl | rfl | rfl | rfl | rfl | rfl | rfl | rfl <;> exact wstep _ _ (fun e => by first | (subst e; exact hy _ rfl) | cases e) fun e => by first | (subst e; exact hn rfl) | exact hn rfl
  · have k2 := some_key [("weights", b0), ("part", b1), ("number", b2), ("log", b3), ("chase", b4), ("miles", b5), ("logs", b6), ("table", b7), ("sights", b8), ("set", b9), ("roll", b10), ("name", b11), ("hour", b12), ("scheme", b13), ("crew", b14), ("man", b15), ("sale", b16), ("crews", b17), ("page", b18), ("pages", b19), ("prize", b20), ("balances", b21), ("money", b22), ("change", b23), ("many", b24), ("text", b25), ("row", b26), ("other", false)]
    have k3 : ([("weights", b0), ("part", b1), ("number", b2), ("log", b3), ("chase", b4), ("miles", b5), ("logs", b6), ("table", b7), ("sights", b8), ("set", b9), ("roll", b10), ("name", b11), ("hour", b12), ("scheme", b13), ("crew", b14), ("man", b15), ("sale", b16), ("crews", b17), ("page", b18), ("pages", b19), ("prize", b20), ("balances", b21), ("money", b22), ("change", b23), ("many", b24), ("text", b25), ("row", b26), ("other", false)] : List (Str × Bool)) = ((clsL.zip wrdL).map fun p => (p.2, ([p.1] : List Str).any (exSub c))) ++ [(("other" : Str), false)] := by
      rw [← e0, ← e1, ← e2, ← e3, ← e4, ← e5, ← e6, ← e7, ← e8, ← e9, ← e10, ← e11, ← e12, ← e13, ← e14, ← e15, ← e16, ← e17, ← e18, ← e19, ← e20, ← e21, ← e22, ← e23, ← e24, ← e25, ← e26]
      rfl
    have k4 : ((((clsL.zip wrdL).map fun p => (p.2, ([p.1] : List Str).any (exSub c))) ++ [(("other" : Str), false)]).filter (·.2)).map (·.1) = [w] := by
      rw [List.filter_append, List.filter_map, List.map_append, List.map_map]
      rw [← h]
      simp [Function.comp_def]
    have k6 := k2.trans (congrArg (List.map PyData.str) ((congrArg (fun l : List (Str × Bool) => (l.filter (·.2)).map (·.1)) k3).trans k4))
    refine Eq.mpr (congrArg (fun l => nJoin " " (.list l) fun t => K t) k6) ?_
    show joinQ " " (strsD [.str w]) K
    refine ⟨?_, ?_⟩
    · show joinOk " " [w]
      unfold joinOk
      have z : (" " : Str).length = 1 := rfl
      simp [z]
      omega
    · have e : Txt.join " " [w] = w := rfl
      show K (.str (Txt.join " " [w]))
      rw [e]
      exact hK
theorem word_sale (K : PyData → Prop) (hK : K (.str "sale")) : q_law_word (exD "NoSale") K := word_of (by decide +kernel) (by decide +kernel) K hK
theorem word_number (K : PyData → Prop) (hK : K (.str "number")) : q_law_word (exD "NoNumber") K := word_of (by decide +kernel) (by decide +kernel) K hK
theorem need_sale_x (d : PyData) (hs : ThO d) (K : PyData → Prop) (E : Str → Prop) (h1 : isSl d = true → K .none) (h0 : isSl d = false → E "NoSale") : q_need_sale d K E := by
  unfold q_need_sale
  refine is_sale_g d hs _ ?_
  cases e : isSl d with
  | true => walk_at "q"; exact h1 e
  | false => walk_at "q"; exact h0 e
theorem isIn_inv {x : PyData} {m : Int} (h : isIn x 0 m = true) : ∃ i, x = .int i ∧ 0 ≤ i ∧ i ≤ m := by
  cases x with
  | int i =>
    have h : (decide (0 ≤ i) && decide (i ≤ m)) = true := h
    rw [Bool.and_eq_true, decide_eq_true_eq, decide_eq_true_eq] at h
    exact ⟨i, rfl, h.1, h.2⟩
  | _ => cases h
theorem isSl_inv {d : PyData} (hs : ThO d) (h : isSl d = true) : ∃ g c r hh b p q, d = saleD g c r hh b p q ∧ Sale g c r hh b p q := by
  unfold isSl at h
  split at h
  · rename_i g c r hh b p
    simp only [Bool.and_eq_true] at h
    obtain ⟨h6, h1, h2, h3, h4, h5⟩ := h
    obtain ⟨g, rfl, g0, g1⟩ := isIn_inv h1
    obtain ⟨c, rfl, c0, c1⟩ := isIn_inv h2
    obtain ⟨r, rfl, r0, r1⟩ := isIn_inv h3
    obtain ⟨hh, rfl, e0, e1⟩ := isIn_inv h4
    obtain ⟨b, rfl, b0, b1⟩ := isIn_inv h5
    have hp := hs.2 p (by simp)
    unfold isPart at h6
    split at h6
    · rename_i p q
      have hq : FewF (.int q) := hp.2 (.int q) (by simp)
      simp only [isFr, Bool.and_eq_true, decide_eq_true_eq] at h6
      exact ⟨g, c, r, hh, b, p, q, rfl, ⟨g0, g1, c0, c1, r0, r1, e0, e1, b0, b1, h6.2.1, h6.2.2, h6.1.1, hq.2, h6.1.2⟩⟩
    · cases h6
  · cases h
theorem purse_of_x (d : PyData) (hs : ThO d) (K : PyData → Prop) (E : Str → Prop) (hK : isSl d = true → ∀ x, K x) (hE : isSl d = false → E "NoSale") : q_purse_of d K E := by
  unfold q_purse_of
  refine need_sale_x d hs _ _ (fun e => ?_) hE
  have hk := hK e
  clear hK hE
  obtain ⟨g, c, r, h, b, p, q, rfl, s⟩ := isSl_inv hs e
  unfold saleD
  have k1 := paid_in s.g0 s.c0
  have k2 := sale_caps s
  have k3 := sale_pot s
  obtain ⟨g0, g1, c0, c1, r0, r1, e0, e1, b0, b1, p0, pq, q0, q1, co⟩ := id s
  walk_at "q"
  have e : (if g < c then g else c) = paid g c := rfl
  have e2 : (g - paid g c) * p / q = caps g c p q := rfl
  have e3 : caps g c p q + h * b = pot g c h b p q := rfl
  rw [e, e2, e3]
  walk_at "sides"
  exact hk _
theorem need_number_x (d : PyData) (K : PyData → Prop) (E : Str → Prop) (h1 : isFrom d 0 = true → K .none) (h0 : isFrom d 0 = false → E "NoNumber") : q_need_number d K E := by
  unfold q_need_number
  rw [is_from_q]
  cases e : isFrom d 0 with
  | true => walk_at "q"; exact h1 e
  | false => walk_at "q"; exact h0 e
theorem least_gross_x (d n : PyData) (hs : ThO d) (hn : ∀ i : Int, n = .int i → i ≤ 10 ^ 16) (K : PyData → Prop) (E : Str → Prop) (hK : isSl d = true → isFrom n 0 = true → ∀ x, K x) (hE : isSl d = false → E "NoSale") (hN : isSl d = true → isFrom n 0 = false → E "NoNumber") : q_least_gross d n K E := by
  unfold q_least_gross
  refine need_sale_x d hs _ _ (fun e => ?_) hE
  refine need_number_x n _ _ (fun en => ?_) (hN e)
  have hk := hK e en
  clear hK hE hN
  obtain ⟨g, c, r, h, b, p, q, rfl, s⟩ := isSl_inv hs e
  obtain ⟨n, rfl, n0⟩ : ∃ i, n = .int i ∧ 0 ≤ i := by
    cases n with
    | int i => exact ⟨i, rfl, of_decide_eq_true en⟩
    | _ => cases en
  have n1 := hn n rfl
  unfold saleD
  walk_at "q"
  obtain ⟨g0, g1, c0, c1, r0, r1, e0, e1, b0, b1, p0, pq, q0, q1, co⟩ := id s
  refine least_pot_q r0 r1 n0 n1 _ ?_
  have hK := hk (leastGross c r h b p q n)
  unfold leastGross at hK
  have lp : leastPot r n = .none ∨ ∃ m, leastPot r n = .int m ∧ 0 ≤ m ∧ m ≤ 10 ^ 21 := by
    unfold leastPot
    split
    · exact .inr ⟨0, rfl, by omega, by omega⟩
    · split
      · exact .inl rfl
      · refine .inr ⟨_, rfl, ?_, ?_⟩
        · have := Int.ediv_nonneg (a := (n - 1) * 10000) (b := 10000 - r) (by omega) (by omega)
          omega
        · have := Int.ediv_le_self (a := (n - 1) * 10000) (10000 - r) (by omega)
          omega
  have hb0 : 0 ≤ h * b := Int.mul_nonneg e0 b0
  have hb1 : h * b ≤ 1000 * 10 ^ 9 := Int.mul_le_mul e1 b1 b0 (by decide)
  rcases lp with lp | ⟨m, lp, m0, m1⟩
  · rw [lp] at hK ⊢
    walk_at "q"
    exact hK
  · rw [lp] at hK ⊢
    dsimp only at hK
    walk_at "go"
    by_cases h1 : m - h * b ≤ 0
    · rw [decide_eq_true h1]
      rw [if_pos h1] at hK
      exact hK
    · rw [decide_eq_false h1]
      rw [if_neg h1] at hK
      walk_at "q"
      by_cases h2 : p = 0
      · rw [decide_eq_true h2]
        rw [if_pos h2] at hK
        exact hK
      · rw [decide_eq_false h2]
        rw [if_neg h2] at hK
        walk_at "go"
        exact hK
theorem asked_0 (d n : PyData) (hs : ThO d) (K : PyData → Prop) (h1 : isSl d = true → K (.str "told")) (h0 : isSl d = false → K (.str "sale")) : q_law_asked (.int 0) d n K := by
  unfold q_law_asked
  rw [q_jn]
  walk_at "q"
  exact purse_of_x d hs _ _ (fun e _ => h1 e) fun e => word_sale _ (h0 e)
theorem asked_1 (d n : PyData) (hs : ThO d) (hn : ∀ i : Int, n = .int i → i ≤ 10 ^ 16) (K : PyData → Prop) (h1 : isSl d = true → isFrom n 0 = true → K (.str "told")) (h0 : isSl d = false → K (.str "sale")) (h2 : isSl d = true → isFrom n 0 = false → K (.str "number")) : q_law_asked (.int 1) d n K := by
  unfold q_law_asked
  rw [q_jn]
  walk_at "q"
  simp only [show decide ((1 : Int) = 0) = false from rfl]
  walk_at "q"
  exact least_gross_x d n hs hn _ _ (fun e e2 _ => h1 e e2) (fun e => word_sale _ (h0 e)) fun e e2 => word_number _ (h2 e e2)
theorem mem12 {α : Type} {x a b c d e f g h i j k l : α} (z : x ∈ [a, b, c, d, e, f, g, h, i, j, k, l]) : x = a ∨ x = b ∨ x = c ∨ x = d ∨ x = e ∨ x = f ∨ x = g ∨ x = h ∨ x = i ∨ x = j ∨ x = k ∨ x = l := by simpa using z
theorem mem6 {α : Type} {x a b c d e f : α} (z : x ∈ [a, b, c, d, e, f]) : x = a ∨ x = b ∨ x = c ∨ x = d ∨ x = e ∨ x = f := by simpa using z
theorem FewT.of {x : PyData} (h : FewF x) (hn : ∀ ds, x ≠ .tuple ds) : FewT x := by
  cases x with
  | tuple ds => exact absurd rfl (hn ds)
  | _ => exact h
theorem fewI {i : Int} (h0 : -(10 ^ 40) ≤ i) (h1 : i ≤ 10 ^ 40) : FewT (.int i) := ⟨h0, h1⟩
theorem ThO.of {ds : List PyData} (hl : ds.length ≤ 1000) (h : ∀ x ∈ ds, FewT x) : ThO (.tuple ds) := ⟨hl, h⟩
/-- a row of such parts, cut and put together -/
def RowF (n : Nat) (ds : List PyData) : Prop := ds.length ≤ n ∧ ∀ x ∈ ds, FewT x
theorem RowF.cut {n : Nat} {ds : List PyData} (h : RowF n ds) (lo hi : Option Int) : RowF n (DL.cutD ds lo hi) := by
  unfold DL.cutD
  exact ⟨Nat.le_trans (Nat.le_trans (by rw [List.length_take, List.length_drop]; omega) (Nat.le_refl _)) h.1, fun x hx => h.2 x (List.mem_of_mem_drop (List.mem_of_mem_take hx))⟩
theorem RowF.app {n m : Nat} {xs ys : List PyData} (h : RowF n xs) (k : RowF m ys) : RowF (n + m) (xs ++ ys) := ⟨by rw [List.length_append]; exact Nat.add_le_add h.1 k.1, fun x hx => (List.mem_append.mp hx).elim (h.2 x) (k.2 x)⟩
theorem RowF.one {x : PyData} (h : FewT x) : RowF 1 [x] := ⟨Nat.le_refl _, fun y hy => by rw [List.mem_singleton.mp hy]; exact h⟩
theorem RowF.th {n : Nat} {ds : List PyData} (h : RowF n ds) (hn : n ≤ 1000) : ThO (.tuple ds) := ⟨Nat.le_trans h.1 hn, h.2⟩
theorem Sale.row {g c r h b p q : Int} (s : Sale g c r h b p q) : RowF 6 [.int g, .int c, .int r, .int h, .int b, .tuple [.int p, .int q]] := by
  obtain ⟨g0, g1, c0, c1, r0, r1, e0, e1, b0, b1, p0, pq, q0, q1, co⟩ := id s
  refine ⟨Nat.le_refl _, fun x hx => ?_⟩
  rcases mem6 hx with rfl | rfl | rfl | rfl | rfl | rfl
  · exact fewI (by omega) (by omega)
  · exact fewI (by omega) (by omega)
  · exact fewI (by omega) (by omega)
  · exact fewI (by omega) (by omega)
  · exact fewI (by omega) (by omega)
  · refine ⟨show 2 ≤ 1000 by decide, fun y hy => ?_⟩
    rcases (show y = .int p ∨ y = .int q by simpa using hy) with rfl | rfl
    · exact ⟨by omega, by omega⟩
    · exact ⟨by omega, by omega⟩
theorem pair_few {i j : Int} (hi : -(10 ^ 40) ≤ i ∧ i ≤ 10 ^ 40) (hj : -(10 ^ 40) ≤ j ∧ j ≤ 10 ^ 40) : FewT (.tuple [.int i, .int j]) := ⟨show 2 ≤ 1000 by decide, fun y hy => by
  rcases (show y = .int i ∨ y = .int j by simpa using hy) with rfl | rfl
  · exact hi
  · exact hj⟩
theorem law_sale_q2 {n : Int} {xs : List PyData} (hp : PotOk n xs) (hn : n ≤ 10 ^ 4) (K : PyData → List PyData → Prop) (h : ∀ g c r h b p q xs', Sale g c r h b p q → q ≤ 10 ^ 30 + 1 → PotOk (n + 30) xs' → K (saleD g c r h b p q) xs') : q_law_sale xs K := by
  unfold q_law_sale
  have z := sz_of (i := 10) (by decide) (by decide)
  walk_at "go"
  refine law_number_q hp (by omega) (by decide) (by decide) _ fun g xs g0 g1 hp => ?_
  have g2 : g ≤ (10 : Int) ^ 12 := g1
  walk_at "go"
  refine law_number_q hp (by omega) (by decide) (by decide) _ fun c1 xs c10 c11 hp => ?_
  have c12 : c1 ≤ (10 : Int) ^ 12 := c11
  walk_at "go"
  refine law_take_q hp (by omega) (by decide) (by decide) _ fun w xs w0 w1 hp => ?_
  walk_at "q"
  refine pick_mem w0 (by simpa using w1) fun d hd => ?_
  obtain ⟨c, rfl, c0, c1⟩ : ∃ c : Int, d = .int c ∧ 0 ≤ c ∧ c ≤ 10 ^ 12 := by
    rcases mem4 hd with rfl | rfl | rfl | rfl <;> exact ⟨_, rfl, by omega, by omega⟩
  clear hd
  refine law_take_q hp (by omega) (by decide) (by decide) _ fun r1 xs r10 r11 hp => ?_
  refine law_take_q hp (by omega) (by decide) (by decide) _ fun w xs w0 w1 hp => ?_
  walk_at "q"
  refine pick_mem w0 (by simpa using w1) fun d hd => ?_
  obtain ⟨r, rfl, r0, r1⟩ : ∃ c : Int, d = .int c ∧ 0 ≤ c ∧ c ≤ 10000 := by
    rcases mem5 hd with rfl | rfl | rfl | rfl | rfl <;> exact ⟨_, rfl, by omega, by omega⟩
  clear hd
  walk_at "go"
  refine law_take_q hp (by omega) (by decide) (by decide) _ fun w xs w0 w1 hp => ?_
  walk_at "q"
  refine pick_mem w0 (by simpa using w1) fun d hd => ?_
  obtain ⟨k, rfl, k0, k1⟩ : ∃ c : Int, d = .int c ∧ 0 ≤ c ∧ c ≤ 10 ^ 30 := by
    rcases mem3 hd with rfl | rfl | rfl <;> exact ⟨_, rfl, by decide, by decide⟩
  clear hd
  refine law_number_q hp (by omega) (by omega) (by omega) _ fun bt xs bt0 bt1 hp => ?_
  walk_at "q"
  refine law_take_q hp (by omega) (by omega) (by omega) _ fun t1 xs t10 t11 hp => ?_
  refine law_take_q hp (by omega) (by decide) (by decide) _ fun w xs w0 w1 hp => ?_
  walk_at "q"
  refine pick_mem w0 (by simpa using w1) fun d hd => ?_
  obtain ⟨t, rfl, t0, t1⟩ : ∃ c : Int, d = .int c ∧ 0 ≤ c ∧ c ≤ 1 + bt := by
    rcases mem4 hd with rfl | rfl | rfl | rfl <;> exact ⟨_, rfl, by omega, by omega⟩
  clear hd
  refine law_number_q hp (by omega) (by decide) (by decide) _ fun e xs e0 e1 hp => ?_
  walk_at "go"
  refine law_number_q hp (by omega) (by decide) (by decide) _ fun b xs b0 b1 hp => ?_
  refine law_fraction_q t0 (by omega) (by omega) _ ?_
  have gp : 0 < Int.gcd t (1 + bt) := Int.gcd_pos_of_ne_zero_right t (by omega)
  have gp' : (0 : Int) < (Int.gcd t (1 + bt) : Nat) := by omega
  refine h g c r e b (t / (Int.gcd t (1 + bt) : Nat)) ((1 + bt) / (Int.gcd t (1 + bt) : Nat)) xs ⟨g0, g2, c0, c1, r0, r1, e0, e1, b0, b1, Int.ediv_nonneg t0 (by omega), Int.ediv_le_ediv gp' t1, ?_, ?_, gcd_one t (1 + bt) t0 (by omega)⟩ (Int.le_trans (Int.ediv_le_self _ (by omega)) (by omega)) (hp.mono (by omega))
  · have := Int.ediv_pos_of_pos_of_dvd (a := 1 + bt) (b := (Int.gcd t (1 + bt) : Nat)) (by omega) (by omega) (Int.gcd_dvd_right t (1 + bt))
    exact this
  · exact Int.le_trans (Int.ediv_le_self _ (by omega)) (by omega)
theorem odd_q {n : Int} {xs : List PyData} (hp : PotOk n xs) (hn : n ≤ 10 ^ 4) {g c r h b p q : Int} (s : Sale g c r h b p q) (qq : q ≤ 10 ^ 30 + 1) (K : PyData → List PyData → Prop) (hK : ∀ d xs', ThO d → PotOk (n + 4) xs' → K d xs') : q_law_odd xs (saleD g c r h b p q) K := by
  unfold q_law_odd
  have z10 : Sz 10 := sz_of (by decide) (by decide)
  have row := s.row
  refine law_take_q hp (by omega) (by decide) (by decide) _ fun way xs w0 w1 hp => ?_
  refine law_take_q hp (by omega) (by decide) (by decide) _ fun at_ xs a0 a1 hp => ?_
  refine law_take_q hp (by omega) (by decide) (by decide) _ fun pick xs p0 p1 hp => ?_
  walk_at "q"
  refine ⟨⟨z10, by decide, by decide⟩, ⟨z10, by decide, by decide⟩, ⟨z10, by decide, by decide⟩, ?_⟩
  refine pick_mem a0 (by simpa using a1) fun d hd => ?_
  obtain ⟨m, rfl, m0, m1⟩ : ∃ m : Int, d = .int m ∧ 0 ≤ m ∧ m ≤ 10 ^ 12 := by
    rcases mem6 hd with rfl | rfl | rfl | rfl | rfl | rfl <;> exact ⟨_, rfl, by decide, by decide⟩
  walk_at "q"
  refine ⟨⟨z10, by decide, by decide⟩, ?_⟩
  refine pick_mem a0 (by simpa using a1) fun d2 hd2 => ?_
  obtain ⟨m2, rfl, m20, m21⟩ : ∃ m : Int, d2 = .int m ∧ 0 ≤ m ∧ m ≤ 10 ^ 12 := by
    rcases mem6 hd2 with rfl | rfl | rfl | rfl | rfl | rfl <;> exact ⟨_, rfl, by decide, by decide⟩
  refine pick_mem p0 (by simpa using p1) fun odd ho => ?_
  have fo : FewT odd := by
    rcases mem12 ho with rfl | rfl | rfl | rfl | rfl | rfl | rfl | rfl | rfl | rfl | rfl | rfl
    · exact fewI (by omega) (by omega)
    · exact fewI (by decide) (by decide)
    · exact True.intro
    · exact True.intro
    · exact True.intro
    · exact True.intro
    · exact ⟨show 1 ≤ 1000 by decide, fun y hy => by rw [List.mem_singleton.mp hy]; exact ⟨by decide, by decide⟩⟩
    · exact True.intro
    · exact fewI (by decide) (by decide)
    · exact fewI (by omega) (by omega)
    · exact fewI (by decide) (by decide)
    · exact True.intro
  clear ho hd hd2
  have hp4 : PotOk (n + 4) xs := hp.mono (by omega)
  refine bIf_d (fun e => ?_) fun e => ?_
  · unfold saleD
    walk_at "q"
    refine ⟨?_, ?_, hK _ _ (((row.cut _ _).app (.one fo)).app (row.cut _ _) |>.th (by decide)) hp4⟩
    · have := (row.cut none (some at_)).1
      omega
    · have := (row.cut none (some at_)).1
      have := (row.cut (some (at_ + 1)) none).1
      omega
  · refine bIf_d (fun e => ?_) fun e => ?_
    · unfold saleD
      walk_at "q"
      refine ⟨⟨z10, by decide, by decide⟩, ?_⟩
      refine law_take_q hp (by omega) (by decide) (by decide) _ fun w xs' w0 w1 hp => ?_
      have hp4 : PotOk (n + 4) xs' := hp.mono (by omega)
      rw [show (10 : Int) ^ Int.toNat 9 = 1000000000 by decide]
      walk_at "q"
      refine pick_mem w0 (by simpa using w1) fun d hd => ?_
      obtain ⟨b2, rfl, b20, b21, b22, b23⟩ : ∃ m : Int, d = .int m ∧ 0 ≤ m ∧ m ≤ 1000000007 ∧ (-(10 ^ 40) ≤ m * p ∧ m * p ≤ 10 ^ 40) ∧ (-(10 ^ 40) ≤ m * q ∧ m * q ≤ 10 ^ 40) := by
        obtain ⟨g0, g1, c0, c1, r0, r1, e0, e1, b0, b1, p0, pq, q0, q1, co⟩ := id s
        rcases mem6 hd with rfl | rfl | rfl | rfl | rfl | rfl <;> exact ⟨_, rfl, by decide, by decide, ⟨by omega, by omega⟩, ⟨by omega, by omega⟩⟩
      clear hd
      obtain ⟨_, _, _, _, _, _, _, _, _, _, s0, s1, s2, _, _⟩ := id s
      walk_at "go"
      refine pick_mem p0 (by simpa using p1) fun d hd => ?_
      have fd : FewT d := by
        rcases mem12 hd with rfl | rfl | rfl | rfl | rfl | rfl | rfl | rfl | rfl | rfl | rfl | rfl
        · exact pair_few b22 b23
        · exact pair_few ⟨by omega, by omega⟩ ⟨by omega, by omega⟩
        · exact pair_few ⟨by omega, by omega⟩ ⟨by omega, by omega⟩
        · exact pair_few ⟨by omega, by omega⟩ ⟨by omega, by omega⟩
        · exact pair_few ⟨by omega, by omega⟩ ⟨by omega, by omega⟩
        · exact True.intro
        · refine ⟨show 3 ≤ 1000 by decide, fun y hy => ?_⟩
          rcases mem3 hy with rfl | rfl | rfl
          · exact ⟨by omega, by omega⟩
          · exact ⟨by omega, by omega⟩
          · exact ⟨by decide, by decide⟩
        · exact ⟨show 1 ≤ 1000 by decide, fun y hy => by rw [List.mem_singleton.mp hy]; exact ⟨by omega, by omega⟩⟩
        · refine ⟨show 2 ≤ 1000 by decide, fun y hy => ?_⟩
          rcases (show y = .bool true ∨ y = .int 1 by simpa using hy) with rfl | rfl
          · exact True.intro
          · exact ⟨by decide, by decide⟩
        · exact pair_few ⟨by decide, by decide⟩ ⟨by decide, by decide⟩
        · exact pair_few ⟨by decide, by decide⟩ ⟨by decide, by decide⟩
        · exact True.intro
      refine ⟨?_, hK _ _ ((row.cut _ _).app (.one fd) |>.th (by decide)) hp4⟩
      have := (row.cut none (some 5)).1
      omega
    · refine bIf_d (fun e => ?_) fun e => ?_
      · unfold saleD
        walk_at "q"
        have q0 := Int.emod_nonneg pick (by decide : (2 : Int) ≠ 0)
        have q1 := Int.emod_lt_of_pos pick (by decide : (0 : Int) < 2)
        refine ⟨by decide, ⟨sz_of (by decide) (by decide), sz_of (by omega) (by omega)⟩, ?_, hK _ _ ((row.cut _ _).app (row.cut _ _) |>.th (by decide)) hp4⟩
        have := (row.cut none (some at_)).1
        have := (row.cut (some (at_ + 1 - 2 * (pick % 2))) none).1
        omega
      · unfold saleD
        walk_at "q"
        refine ⟨by decide, ?_⟩
        refine pick_mem p0 (by simpa using p1) fun d hd => hK _ _ ?_ hp4
        rcases mem12 hd with rfl | rfl | rfl | rfl | rfl | rfl | rfl | rfl | rfl | rfl | rfl | rfl
        · exact True.intro
        · exact ⟨by rw [List.length_reverse]; exact Nat.le_trans row.1 (by decide), fun x hx => row.2 x (List.mem_reverse.mp hx)⟩
        · exact (row.app (.one (fewI (i := 0) (by decide) (by decide)))).th (by decide)
        · exact ⟨Nat.zero_le _, fun x hx => by cases hx⟩
        · exact True.intro
        · exact True.intro
        · exact True.intro
        · exact True.intro
        · exact True.intro
        · exact (row.cut none (some 5)).th (by decide)
        · refine ⟨show 1 ≤ 1000 by decide, fun x hx => ?_⟩
          rw [List.mem_singleton.mp hx]
          refine ⟨show 6 ≤ 1000 by decide, fun y hy => ?_⟩
          have hy2 := row.2 y hy
          rcases mem6 hy with rfl | rfl | rfl | rfl | rfl | rfl <;> first | exact hy2 | exact True.intro
        · exact row.th (by decide)
theorem sl_true {g c r h b p q : Int} (s : Sale g c r h b p q) : isSl (saleD g c r h b p q) = true := by
  unfold isSl saleD
  dsimp only
  rw [part_true s.p0 s.pq s.q0 s.co]
  have w : ∀ {x m : Int}, 0 ≤ x → x ≤ m → isIn (.int x) 0 m = true := fun {x m} h0 h1 => by simp only [isIn, decide_eq_true h0, decide_eq_true h1]; rfl
  rw [w s.g0 (m := 1000000000000) s.g1, w s.c0 (m := 1000000000000) s.c1, w s.r0 s.r1, w s.h0 s.h1, w s.b0 (m := 1000000000) s.b1]
  rfl
theorem ne_same' {w : Str} {K : PyData → Prop} (h : K (.bool false)) : oNe (.str w) (.str w) K := by
  rw [q_neS, decide_eq_true rfl]
  exact h
theorem pick_to {xs : List PyData} {k : Int} {d : PyData} {P : PyData → Prop} (h : atI xs k = some d) (hP : P d) : DL.pick xs k P := by
  rw [DL.pick_eq h]
  exact hP
theorem turn_q {thing : PyData} (ht : ThO thing) {n0 : Int} {xs : List PyData} (hp : PotOk n0 xs) (hn : n0 ≤ 10 ^ 5) {i : PyData × PyData} {K : PyData → Prop} {nx : (PyData × PyData) → List PyData → Prop} (hnx : ∀ xs', PotOk (n0 + 1) xs' → nx i xs') :
    q_law_is_sale thing fun due41 =>
  oPow (.int 10) (.int 15) fun t42 =>
  q_law_take xs (.int 7) fun t43 pot_here44 =>
  oIx (.list [(.int 0), (.int (-1)), .none, (.bool true), (.str "1"), (.tuple [(.int 1)]), t42]) t43 fun n45 =>
  q_is_sale thing fun found46 =>
  DL.tOr (!(isiB found46 "bool")) (fun k49 => oNe found46 due41 fun t47 =>
  bT t47 fun b48 =>
  k49 b48) fun b50 =>
  bIf b50
  (K (.bool false))
  (q_law_asked (.int 0) thing (.int 0) fun a51 =>
  nInt [due41] fun t52 =>
  oIx (.list [(.str "sale"), (.str "told")]) t52 fun t53 =>
  oNe a51 t53 fun t54 =>
  bT t54 fun b55 =>
  bIf b55
  (K (.bool false))
  (vAnd (isiB n45 "int") (fun k59 => vAnd (!(isiB n45 "bool")) (fun k57 => oGe n45 (.int 0) fun t56 =>
  k57 t56) fun t58 =>
  k59 t58) fun t60 =>
  q_law_asked (.int 1) thing n45 fun a61 =>
  nInt [t60] fun t62 =>
  oIx (.list [(.str "number"), (.str "told")]) t62 fun t63 =>
  nInt [due41] fun t64 =>
  oIx (.list [(.str "sale"), t63]) t64 fun t65 =>
  oNe a61 t65 fun t66 =>
  bT t66 fun b67 =>
  bIf b67
  (K (.bool false))
  (nx (i.1, i.2) pot_here44))) := by
  have z10 : Sz 10 := sz_of (by decide) (by decide)
  refine law_is_sale_g thing ht _ ?_
  walk_at "q"
  refine ⟨⟨z10, by decide, by decide⟩, ?_⟩
  refine law_take_q hp (by omega) (by decide) (by decide) _ fun w xs' w0 w1 hp => ?_
  have hnx := hnx xs' hp
  walk_at "q"
  refine pick_mem w0 (by simpa using w1) fun n hn => ?_
  have n16 : ∀ i : Int, n = .int i → i ≤ 10 ^ 16 := fun i e => by
    subst e
    rcases mem7 hn with e | e | e | e | e | e | e <;> first | (cases e; decide) | cases e
  refine is_sale_g thing ht _ ?_
  have isF : ∀ P : PyData → Prop, P (.bool (isFrom n 0)) → vAnd (isiB n "int") (fun k59 => vAnd (!(isiB n "bool")) (fun k57 => oGe n (.int 0) fun t56 => k57 t56) fun t58 => k59 t58) P := fun P hP => by
    rcases mem7 hn with rfl | rfl | rfl | rfl | rfl | rfl | rfl <;> (walk_at "q"; exact hP)
  cases e : isSl thing with
  | false =>
    walk_at "q"
    simp only [if_false]
    refine asked_0 thing _ ht _ (fun z => by rw [e] at z; cases z) fun _ => ?_
    try dsimp only
    refine pick_to (d := .str "sale") (by rfl) ?_
    refine ne_same' ?_
    walk_at "q"
    refine isF _ ?_
    refine asked_1 thing n ht n16 _ (fun z => by rw [e] at z; cases z) (fun _ => ?_) fun z => by rw [e] at z; cases z
    cases isFrom n 0 with
    | false =>
      walk_at "q"
      try dsimp only
      refine pick_to (d := .str "number") (by rfl) ?_
      exact hnx
    | true =>
      walk_at "q"
      try dsimp only
      refine pick_to (d := .str "told") (by rfl) ?_
      exact hnx
  | true =>
    walk_at "q"
    simp only [if_true]
    refine asked_0 thing _ ht _ (fun _ => ?_) fun z => by rw [e] at z; cases z
    refine pick_to (d := .str "told") (by rfl) ?_
    refine ne_same' ?_
    walk_at "q"
    refine isF _ ?_
    refine asked_1 thing n ht n16 _ (fun _ z => ?_) (fun z => by rw [e] at z; cases z) fun _ z => ?_
    · rw [z]
      walk_at "q"
      try dsimp only
      refine pick_to (d := .str "told") (by rfl) ?_
      exact hnx
    · rw [z]
      walk_at "q"
      try dsimp only
      refine pick_to (d := .str "number") (by rfl) ?_
      exact hnx
theorem second_q {thing : PyData} (ht : ThO thing) {n0 : Int} {xs : List PyData} (hp : PotOk n0 xs) (hn : n0 ≤ 10 ^ 5) (k : Int) (F : List PyData → PyData → Prop) (hF : ∀ xs' t, ThO t → PotOk (n0 + 2) xs' → F xs' t) :
    oMod (.int k) (.int 3) fun t14 =>
  oEq t14 (.int 2) fun t15 =>
  bT t15 fun b16 =>
  DL.tAnd b16 (fun k22 => DL.tAnd (isiB thing "tuple") (fun k20 => nLen [thing] fun t17 =>
  oEq t17 (.int 6) fun t18 =>
  bT t18 fun b19 =>
  k20 b19) fun b21 =>
  k22 b21) fun b23 =>
  jn (fun J40 => bIf b23
  (q_law_take xs (.int 5) fun at_24 pot_here25 =>
  oPow (.int 10) (.int 12) fun t26 =>
  oAdd t26 (.int 1) fun t27 =>
  q_law_take pot_here25 (.int 6) fun t28 pot_here29 =>
  oIx (.list [(.int (-1)), .none, (.bool true), t27, (.str "0"), (.int 0)]) t28 fun odd_here30 =>
  soQ at_24 fun o31 =>
  oSl thing none o31 fun l32 =>
  oAdd l32 (.tuple [odd_here30]) fun t33 =>
  oAdd at_24 (.int 1) fun t34 =>
  soQ t34 fun o35 =>
  oSl thing o35 none fun l36 =>
  oAdd t33 l36 fun thing37 =>
  J40 pot_here29 thing37)
  (J40 xs thing)) F := by
  have same_ : F xs thing := hF xs thing ht (hp.mono (by omega))
  walk_at "q"
  refine ⟨by decide, ?_⟩
  cases decide (k % 3 = 2) with
  | false => walk_at "q"; exact same_
  | true =>
    walk_at "q"
    cases e : isiB thing "tuple" with
    | false => walk_at "q"; exact same_
    | true =>
      obtain ⟨ts, rfl⟩ := isi_tp e
      walk_at "q"
      refine bIf_d (fun e6 => ?_) fun _ => same_
      have hl : ts.length ≤ 6 := by omega
      have row : RowF 6 ts := ⟨hl, ht.2⟩
      have z10 : Sz 10 := sz_of (by decide) (by decide)
      refine law_take_q hp (by omega) (by decide) (by decide) _ fun at_ xs' a0 a1 hp => ?_
      walk_at "q"
      refine ⟨⟨z10, by decide, by decide⟩, ?_⟩
      refine law_take_q hp (by omega) (by decide) (by decide) _ fun w xs' w0 w1 hp => ?_
      walk_at "q"
      refine pick_mem w0 (by simpa using w1) fun odd ho => ?_
      have fo : FewT odd := by
        rcases mem6 ho with rfl | rfl | rfl | rfl | rfl | rfl
        · exact fewI (by decide) (by decide)
        · exact True.intro
        · exact True.intro
        · exact fewI (by decide) (by decide)
        · exact True.intro
        · exact fewI (by decide) (by decide)
      walk_at "q"
      refine ⟨?_, ?_, hF _ _ (((row.cut _ _).app (.one fo)).app (row.cut _ _) |>.th (by decide)) (hp.mono (by omega))⟩
      · have := (row.cut none (some at_)).1
        omega
      · have := (row.cut none (some at_)).1
        have := (row.cut (some (at_ + 1)) none).1
        omega
theorem the_law (ns : List Int) (hn : ns.length ≤ 63) (K : PyData → Prop) (hK : K (.bool true)) : q_law (.list (ns.map .int)) K := by
  unfold q_law
  walk_at "q"
  have hb : (if (20 : Int) < (ns.length : Nat) then (20 : Int) else (ns.length : Nat)) + 1 ≤ 21 ∧ 0 ≤ (if (20 : Int) < (ns.length : Nat) then (20 : Int) else (ns.length : Nat)) + 1 := by split <;> omega
  generalize (if (20 : Int) < (ns.length : Nat) then (20 : Int) else (ns.length : Nat)) + 1 = m at hb
  refine ⟨by omega, ?_⟩
  refine qFor_range (fun _ _ => True) trivial (fun k s nx hk _ hnx => ?_) fun _ _ => hK
  unfold qb_law_1
  refine law_pot_q ns hn _ (by omega) (by omega) _ fun xs hp => ?_
  refine law_sale_q2 hp (by omega) _ fun g c r e b p q xs s1 qq hp => ?_
  have th : ThO (saleD g c r e b p q) := s1.row.th (by decide)
  refine is_sale_g _ th _ ?_
  rw [sl_true s1]
  walk_at "go"
  refine qFor_range (fun k s => PotOk (30 + 10 * (k : Int)) s) (by simpa using hp) (fun k s nx hk hp hnx2 => ?_) fun _ _ => hnx _ trivial
  unfold qb_law_2
  refine odd_q hp (by omega) s1 qq _ fun thing xs ht hp => ?_
  refine second_q ht hp (by omega) _ _ fun xs t ht hp => ?_
  exact turn_q ht hp (by omega) fun xs hp => hnx2 _ (hp.mono (by omega))
section
variable {P : Program} {w : World} {K : PySem.W.Frag} {mg : Str → Option Value} {base : Heap} [SysB base] {Tb : List (Addr × Str)}
def kk_is_whole : RT → (PyData → Prop) := fun R v => R (.dat v) []
def S_is_whole : DSp := fun as Q => match as with
  | [.dat x0] => q_is_whole x0 (kk_is_whole Q)
  | _ => False
theorem len_is_whole (as : List SD) (Q : SD → List SD → Prop) (h : S_is_whole as Q) : as.length = 1 := by
  unfold S_is_whole at h
  split at h
  · rfl
  · exact h.elim
theorem cels_is_whole : CelsIn 0 S_is_whole := by
  intro as Q h i p xs e
  unfold S_is_whole at h
  split at h
  · exact absurd e (no_cel (ds := [_]) i p xs)
  · exact h.elim
def N_is_whole : List Str := ["thing"]
theorem sc_is_whole : FnScope N_is_whole ["thing"] (defScope (top 1)) := ⟨rfl, rfl, rfl, by decide +kernel, rfl, by decide +kernel, by decide +kernel⟩
theorem fg_is_whole (T : Tp K mg)  {fd : FuncData} (Fn : Fun K "is_whole" "is_whole" (top 1) (He.ga K "is_whole") fd) : FnG P w K mg base Tb 1 (He.ga K "is_whole") fd ["thing"] S_is_whole := by
  refine dfn 0 Fn sc_is_whole len_is_whole cels_is_whole fun cdv A outer s H hr hA => ⟨_, (sone (sret (m := 0) (dx (dandV (disi "int" "int" (m_isinstance T) (m_int T) (by decide +kernel) (by decide +kernel) (dv 0)) (done (dnotV (disi "bool" "bool" (m_isinstance T) (m_bool T) (by decide +kernel) (by decide +kernel) (dv 0)))))))), fun as Q h => ?_⟩
  unfold S_is_whole at h
  split at h
  · unfold q_is_whole at h
    rename_i x0
    refine at_env (b := [.dat x0]) rfl ?_
    exact Eq.mp (by kernel_rfl) h
  · exact h.elim
theorem ok_is_whole (T : Tp K mg)  : Dn P w K mg base Tb "is_whole" 1 ["thing"] S_is_whole := by
  obtain ⟨kV, doc, pm, an, cdv, ct, Fn⟩ := T.fun_ "is_whole" (top 1) 0 68
  exact ⟨⟨_, fg_is_whole T  Fn, Fn.binds (ps := ["thing"]) fun _ _ _ _ _ _ us hl => match us, hl with | [_], _ => rfl⟩, T.glo "is_whole" 17, T.keep "is_whole" 68⟩
def kk_is_within : RT → (PyData → Prop) := fun R v => R (.dat v) []
def S_is_within : DSp := fun as Q => match as with
  | [.dat x0, .dat x1, .dat x2] => q_is_within x0 x1 x2 (kk_is_within Q)
  | _ => False
theorem len_is_within (as : List SD) (Q : SD → List SD → Prop) (h : S_is_within as Q) : as.length = 3 := by
  unfold S_is_within at h
  split at h
  · rfl
  · exact h.elim
theorem cels_is_within : CelsIn 0 S_is_within := by
  intro as Q h i p xs e
  unfold S_is_within at h
  split at h
  · exact absurd e (no_cel (ds := [_, _, _]) i p xs)
  · exact h.elim
def N_is_within : List Str := ["thing", "least", "most"]
theorem sc_is_within : FnScope N_is_within ["thing", "least", "most"] (defScope (top 2)) := ⟨rfl, rfl, rfl, by decide +kernel, rfl, by decide +kernel, by decide +kernel⟩
theorem fg_is_within (T : Tp K mg) (D_is_whole : Dn P w K mg base Tb "is_whole" 1 ["thing"] S_is_whole) {fd : FuncData} (Fn : Fun K "is_within" "is_within" (top 2) (He.ga K "is_within") fd) : FnG P w K mg base Tb 2 (He.ga K "is_within") fd ["thing", "least", "most"] S_is_within := by
  refine dfn 0 Fn sc_is_within len_is_within cels_is_within fun cdv A outer s H hr hA => ⟨_, (sone (sret (m := 0) (dx (dandV (dfrz (dcn D_is_whole (hr.mono (by decide)) hA (acons (dv 0) anil))) (done (dchain op_le op_le opr_le opr_le (dv 1) (dv 0) (dv 2))))))), fun as Q h => ?_⟩
  unfold S_is_within at h
  split at h
  · unfold q_is_within at h
    rename_i x0 x1 x2
    refine at_env (b := [.dat x0, .dat x1, .dat x2]) rfl ?_
    exact Eq.mp (by kernel_rfl) h
  · exact h.elim
theorem ok_is_within (T : Tp K mg) (D_is_whole : Dn P w K mg base Tb "is_whole" 1 ["thing"] S_is_whole) : Dn P w K mg base Tb "is_within" 2 ["thing", "least", "most"] S_is_within := by
  obtain ⟨kV, doc, pm, an, cdv, ct, Fn⟩ := T.fun_ "is_within" (top 2) 1 69
  exact ⟨⟨_, fg_is_within T D_is_whole Fn, Fn.binds (ps := ["thing", "least", "most"]) fun _ _ _ _ _ _ us hl => match us, hl with | [_, _, _], _ => rfl⟩, T.glo "is_within" 18, T.keep "is_within" 69⟩
def kk_is_from : RT → (PyData → Prop) := fun R v => R (.dat v) []
def S_is_from : DSp := fun as Q => match as with
  | [.dat x0, .dat x1] => q_is_from x0 x1 (kk_is_from Q)
  | _ => False
theorem len_is_from (as : List SD) (Q : SD → List SD → Prop) (h : S_is_from as Q) : as.length = 2 := by
  unfold S_is_from at h
  split at h
  · rfl
  · exact h.elim
theorem cels_is_from : CelsIn 0 S_is_from := by
  intro as Q h i p xs e
  unfold S_is_from at h
  split at h
  · exact absurd e (no_cel (ds := [_, _]) i p xs)
  · exact h.elim
def N_is_from : List Str := ["thing", "least"]
theorem sc_is_from : FnScope N_is_from ["thing", "least"] (defScope (top 3)) := ⟨rfl, rfl, rfl, by decide +kernel, rfl, by decide +kernel, by decide +kernel⟩
theorem fg_is_from (T : Tp K mg) (D_is_whole : Dn P w K mg base Tb "is_whole" 1 ["thing"] S_is_whole) {fd : FuncData} (Fn : Fun K "is_from" "is_from" (top 3) (He.ga K "is_from") fd) : FnG P w K mg base Tb 2 (He.ga K "is_from") fd ["thing", "least"] S_is_from := by
  refine dfn 0 Fn sc_is_from len_is_from cels_is_from fun cdv A outer s H hr hA => ⟨_, (sone (sret (m := 0) (dx (dandV (dfrz (dcn D_is_whole (hr.mono (by decide)) hA (acons (dv 0) anil))) (done (dcmp op_le opr_le (dv 1) (dv 0) (nomark _))))))), fun as Q h => ?_⟩
  unfold S_is_from at h
  split at h
  · unfold q_is_from at h
    rename_i x0 x1
    refine at_env (b := [.dat x0, .dat x1]) rfl ?_
    exact Eq.mp (by kernel_rfl) h
  · exact h.elim
theorem ok_is_from (T : Tp K mg) (D_is_whole : Dn P w K mg base Tb "is_whole" 1 ["thing"] S_is_whole) : Dn P w K mg base Tb "is_from" 2 ["thing", "least"] S_is_from := by
  obtain ⟨kV, doc, pm, an, cdv, ct, Fn⟩ := T.fun_ "is_from" (top 3) 2 70
  exact ⟨⟨_, fg_is_from T D_is_whole Fn, Fn.binds (ps := ["thing", "least"]) fun _ _ _ _ _ _ us hl => match us, hl with | [_, _], _ => rfl⟩, T.glo "is_from" 19, T.keep "is_from" 70⟩
def kk_are_wholes : RT → (PyData → Prop) := fun R v => R (.dat v) []
def em_are_wholes_1 (i : PyData × PyData) (s : Unit) : List SD := [.dat i.1, .dat i.2, .un]
def de_are_wholes_1 : List SD → Option ((PyData × PyData) × (Unit))
  | [.dat x0, .dat x1, .un] => some ((x0, x1), ())
  | _ => none
theorem hde_are_wholes_1 : ∀ env i s, de_are_wholes_1 env = some (i, s) → env = em_are_wholes_1 i s := by
  intro env i s h
  unfold de_are_wholes_1 at h
  split at h
  · cases h; rfl
  · cases h
def S_are_wholes : DSp := fun as Q => match as with
  | [.dat x0, .dat x1] => q_are_wholes x0 x1 (kk_are_wholes Q)
  | _ => False
theorem len_are_wholes (as : List SD) (Q : SD → List SD → Prop) (h : S_are_wholes as Q) : as.length = 2 := by
  unfold S_are_wholes at h
  split at h
  · rfl
  · exact h.elim
theorem cels_are_wholes : CelsIn 0 S_are_wholes := by
  intro as Q h i p xs e
  unfold S_are_wholes at h
  split at h
  · exact absurd e (no_cel (ds := [_, _]) i p xs)
  · exact h.elim
def N_are_wholes : List Str := ["thing", "many", "number"]
theorem sc_are_wholes : FnScope N_are_wholes ["thing", "many"] (defScope (top 4)) := ⟨rfl, rfl, rfl, by decide +kernel, rfl, by decide +kernel, by decide +kernel⟩
theorem fg_are_wholes (T : Tp K mg) (D_is_whole : Dn P w K mg base Tb "is_whole" 1 ["thing"] S_is_whole) {fd : FuncData} (Fn : Fun K "are_wholes" "are_wholes" (top 4) (He.ga K "are_wholes") fd) : FnG P w K mg base Tb 2 (He.ga K "are_wholes") fd ["thing", "many"] S_are_wholes := by
  refine dfn 0 Fn sc_are_wholes len_are_wholes cels_are_wholes fun cdv A outer s H hr hA => ⟨_, (sone (sret (m := 0) (dx (dandV (disi "tuple" "tuple" (m_isinstance T) (m_tuple T) (by decide +kernel) (by decide +kernel) (dv 0)) (dandV (dcmp (op_eqE hr.units) opd_eq (dlen (m_len T) (acons (dv 0) anil)) (dv 1) (nomark _)) (done (dall (m_all T) rfl (acons (dfrz (dlc (dec := de_are_wholes_1) (emb := em_are_wholes_1) (qb := qb_are_wholes_1) [("number", 2)] (.one 2) hde_are_wholes_1 rfl sc_are_wholes.nd (iseq (dv 0)) (blkOk_by (own := [("number", 2)]) (N := N_are_wholes) (sc := defScope (top 4)) (by decide +kernel)) (fun _ _ _ _ _ => pg_name (i := 2) sc_are_wholes.nd rfl (Or.inl rfl)) (fun _ _ _ _ _ => tyes) (fun _ _ _ _ _ => (dfrz (dcn D_is_whole (hr.mono (by decide)) hA (acons (dv 2) anil)))) (fun d i s sk yd h => Eq.mp (by kernel_rfl) h))) anil)))))))), fun as Q h => ?_⟩
  unfold S_are_wholes at h
  split at h
  · unfold q_are_wholes at h
    rename_i x0 x1
    refine at_env (b := [.dat x0, .dat x1, .un]) rfl ?_
    exact Eq.mp (by kernel_rfl) h
  · exact h.elim
theorem ok_are_wholes (T : Tp K mg) (D_is_whole : Dn P w K mg base Tb "is_whole" 1 ["thing"] S_is_whole) : Dn P w K mg base Tb "are_wholes" 2 ["thing", "many"] S_are_wholes := by
  obtain ⟨kV, doc, pm, an, cdv, ct, Fn⟩ := T.fun_ "are_wholes" (top 4) 3 71
  exact ⟨⟨_, fg_are_wholes T D_is_whole Fn, Fn.binds (ps := ["thing", "many"]) fun _ _ _ _ _ _ us hl => match us, hl with | [_, _], _ => rfl⟩, T.glo "are_wholes" 20, T.keep "are_wholes" 71⟩
def kk_divisor_of : RT → (PyData → Prop) := fun R v => R (.dat v) []
def em_divisor_of_1 (i : Unit) (s : PyData × PyData) : List SD := [.dat s.1, .dat s.2]
def de_divisor_of_1 : List SD → Option ((Unit) × (PyData × PyData))
  | [.dat x0, .dat x1] => some ((), (x0, x1))
  | _ => none
theorem hde_divisor_of_1 : ∀ env i s, de_divisor_of_1 env = some (i, s) → env = em_divisor_of_1 i s := by
  intro env i s h
  unfold de_divisor_of_1 at h
  split at h
  · cases h; rfl
  · cases h
def S_divisor_of : DSp := fun as Q => match as with
  | [.dat x0, .dat x1] => q_divisor_of x0 x1 (kk_divisor_of Q)
  | _ => False
theorem len_divisor_of (as : List SD) (Q : SD → List SD → Prop) (h : S_divisor_of as Q) : as.length = 2 := by
  unfold S_divisor_of at h
  split at h
  · rfl
  · exact h.elim
theorem cels_divisor_of : CelsIn 0 S_divisor_of := by
  intro as Q h i p xs e
  unfold S_divisor_of at h
  split at h
  · exact absurd e (no_cel (ds := [_, _]) i p xs)
  · exact h.elim
def N_divisor_of : List Str := ["one", "other"]
theorem sc_divisor_of : FnScope N_divisor_of ["one", "other"] (defScope (top 5)) := ⟨rfl, rfl, rfl, by decide +kernel, rfl, by decide +kernel, by decide +kernel⟩
theorem fg_divisor_of (T : Tp K mg)  {fd : FuncData} (Fn : Fun K "divisor_of" "divisor_of" (top 5) (He.ga K "divisor_of") fd) : FnG P w K mg base Tb 1 (He.ga K "divisor_of") fd ["one", "other"] S_divisor_of := by
  refine dfn 0 Fn sc_divisor_of len_divisor_of cels_divisor_of fun cdv A outer s H hr hA => ⟨_, (scons (spar 0 1 rfl sc_divisor_of.nd (acons (dabs (m_abs T) (acons (dv 0) anil)) (acons (dabs (m_abs T) (acons (dv 1) anil)) anil))) (scons (swhileQ [] de_divisor_of_1 em_divisor_of_1 kk_divisor_of qb_divisor_of_1 hde_divisor_of_1 PassesOwn.never (dcmpT op_gt opr_gt (dv 1) di (nomark _)) (sone (spar 0 1 rfl sc_divisor_of.nd (acons (dv 1) (acons (dmod (dv 0) (dv 1)) anil)))) (fun R i s nx bk h => Eq.mp (by kernel_rfl) h)) (sone (sret (m := 0) (dx (dv 0)))))), fun as Q h => ?_⟩
  unfold S_divisor_of at h
  split at h
  · unfold q_divisor_of at h
    rename_i x0 x1
    refine at_env (b := [.dat x0, .dat x1]) rfl ?_
    exact Eq.mp (by kernel_rfl) h
  · exact h.elim
theorem ok_divisor_of (T : Tp K mg)  : Dn P w K mg base Tb "divisor_of" 1 ["one", "other"] S_divisor_of := by
  obtain ⟨kV, doc, pm, an, cdv, ct, Fn⟩ := T.fun_ "divisor_of" (top 5) 4 72
  exact ⟨⟨_, fg_divisor_of T  Fn, Fn.binds (ps := ["one", "other"]) fun _ _ _ _ _ _ us hl => match us, hl with | [_, _], _ => rfl⟩, T.glo "divisor_of" 21, T.keep "divisor_of" 72⟩
def kk_is_fraction : RT → (PyData → Prop) := fun R v => R (.dat v) []
def S_is_fraction : DSp := fun as Q => match as with
  | [.dat x0] => q_is_fraction x0 (kk_is_fraction Q)
  | _ => False
theorem len_is_fraction (as : List SD) (Q : SD → List SD → Prop) (h : S_is_fraction as Q) : as.length = 1 := by
  unfold S_is_fraction at h
  split at h
  · rfl
  · exact h.elim
theorem cels_is_fraction : CelsIn 0 S_is_fraction := by
  intro as Q h i p xs e
  unfold S_is_fraction at h
  split at h
  · exact absurd e (no_cel (ds := [_]) i p xs)
  · exact h.elim
def N_is_fraction : List Str := ["thing"]
theorem sc_is_fraction : FnScope N_is_fraction ["thing"] (defScope (top 6)) := ⟨rfl, rfl, rfl, by decide +kernel, rfl, by decide +kernel, by decide +kernel⟩
theorem fg_is_fraction (T : Tp K mg) (D_are_wholes : Dn P w K mg base Tb "are_wholes" 2 ["thing", "many"] S_are_wholes) (D_divisor_of : Dn P w K mg base Tb "divisor_of" 1 ["one", "other"] S_divisor_of) {fd : FuncData} (Fn : Fun K "is_fraction" "is_fraction" (top 6) (He.ga K "is_fraction") fd) : FnG P w K mg base Tb 3 (He.ga K "is_fraction") fd ["thing"] S_is_fraction := by
  refine dfn 0 Fn sc_is_fraction len_is_fraction cels_is_fraction fun cdv A outer s H hr hA => ⟨_, (sone (sret (m := 0) (dx (dandV (dfrz (dcn D_are_wholes (hr.mono (by decide)) hA (acons (dv 0) (acons di anil)))) (dandV (dcmp op_gt opr_gt (dixP (dv 0) di) di (nomark _)) (done (dcmp (op_eqE hr.units) opd_eq (dfrz (dcn D_divisor_of (hr.mono (by decide)) hA (acons (dixP (dv 0) di) (acons (dixP (dv 0) di) anil)))) di (nomark _)))))))), fun as Q h => ?_⟩
  unfold S_is_fraction at h
  split at h
  · unfold q_is_fraction at h
    rename_i x0
    refine at_env (b := [.dat x0]) rfl ?_
    exact Eq.mp (by kernel_rfl) h
  · exact h.elim
theorem ok_is_fraction (T : Tp K mg) (D_are_wholes : Dn P w K mg base Tb "are_wholes" 2 ["thing", "many"] S_are_wholes) (D_divisor_of : Dn P w K mg base Tb "divisor_of" 1 ["one", "other"] S_divisor_of) : Dn P w K mg base Tb "is_fraction" 3 ["thing"] S_is_fraction := by
  obtain ⟨kV, doc, pm, an, cdv, ct, Fn⟩ := T.fun_ "is_fraction" (top 6) 5 73
  exact ⟨⟨_, fg_is_fraction T D_are_wholes D_divisor_of Fn, Fn.binds (ps := ["thing"]) fun _ _ _ _ _ _ us hl => match us, hl with | [_], _ => rfl⟩, T.glo "is_fraction" 22, T.keep "is_fraction" 73⟩
def kk_need_number : RT → (PyData → Prop) := fun R v => R (.dat v) []
def S_need_number : DSpX := fun as Q E => match as with
  | [.dat x0] => q_need_number x0 (kk_need_number Q) E
  | _ => False
theorem len_need_number (as : List SD) (Q : SD → List SD → Prop) (E : Str → Prop) (h : S_need_number as Q E) : as.length = 1 := by
  unfold S_need_number at h
  split at h
  · rfl
  · exact h.elim
theorem nc_need_number (as : List SD) (Q : SD → List SD → Prop) (E : Str → Prop) (h : S_need_number as Q E) : NoCel as := by
  intro i p xs e
  unfold S_need_number at h
  split at h
  · exact absurd e (no_cel (ds := [_]) i p xs)
  · exact h.elim
def N_need_number : List Str := ["thing"]
theorem sc_need_number : FnScope N_need_number ["thing"] (defScope (top 37)) := ⟨rfl, rfl, rfl, by decide +kernel, rfl, by decide +kernel, by decide +kernel⟩
theorem fg_need_number (T : Tp K mg) (D_is_from : Dn P w K mg base Tb "is_from" 2 ["thing", "least"] S_is_from) {fd : FuncData} (Fn : Fun K "need_number" "need_number" (top 37) (He.ga K "need_number") fd) : FnX P w K mg base Tb 3 (He.ga K "need_number") fd ["thing"] S_need_number := by
  refine dfnX Fn sc_need_number len_need_number nc_need_number fun Ec cdv A outer s H E tk po hr hA => ⟨_, (sone (sif (tnot (dtest (dfrz (dcn D_is_from (hr.mono (by decide)) hA (acons (dv 0) (acons di anil)))))) (sone (sraise (ce_NoNumber T) rfl tk)) snil)), fun as Q h => ?_⟩
  unfold S_need_number at h
  split at h
  · unfold q_need_number at h
    rename_i x0
    refine at_env (b := [.dat x0]) rfl ?_
    exact Eq.mp (by kernel_rfl) h
  · exact h.elim
theorem ok_need_number (T : Tp K mg) (D_is_from : Dn P w K mg base Tb "is_from" 2 ["thing", "least"] S_is_from) : DnX P w K mg base Tb "need_number" 3 ["thing"] S_need_number := by
  obtain ⟨kV, doc, pm, an, cdv, ct, Fn⟩ := T.fun_ "need_number" (top 37) 6 74
  exact ⟨⟨_, fg_need_number T D_is_from Fn, Fn.binds (ps := ["thing"]) fun _ _ _ _ _ _ us hl => match us, hl with | [_], _ => rfl⟩, T.glo "need_number" 23, T.keep "need_number" 74⟩
def kk_is_part : RT → (PyData → Prop) := fun R v => R (.dat v) []
def S_is_part : DSp := fun as Q => match as with
  | [.dat x0] => q_is_part x0 (kk_is_part Q)
  | _ => False
theorem len_is_part (as : List SD) (Q : SD → List SD → Prop) (h : S_is_part as Q) : as.length = 1 := by
  unfold S_is_part at h
  split at h
  · rfl
  · exact h.elim
theorem cels_is_part : CelsIn 0 S_is_part := by
  intro as Q h i p xs e
  unfold S_is_part at h
  split at h
  · exact absurd e (no_cel (ds := [_]) i p xs)
  · exact h.elim
def N_is_part : List Str := ["thing"]
theorem sc_is_part : FnScope N_is_part ["thing"] (defScope (top 43)) := ⟨rfl, rfl, rfl, by decide +kernel, rfl, by decide +kernel, by decide +kernel⟩
theorem fg_is_part (T : Tp K mg) (D_is_fraction : Dn P w K mg base Tb "is_fraction" 3 ["thing"] S_is_fraction) {fd : FuncData} (Fn : Fun K "is_part" "is_part" (top 43) (He.ga K "is_part") fd) : FnG P w K mg base Tb 4 (He.ga K "is_part") fd ["thing"] S_is_part := by
  refine dfn 0 Fn sc_is_part len_is_part cels_is_part fun cdv A outer s H hr hA => ⟨_, (sone (sret (m := 0) (dx (dandV (dfrz (dcn D_is_fraction (hr.mono (by decide)) hA (acons (dv 0) anil))) (done (dchain op_le op_le opr_le opr_le di (dixP (dv 0) di) (dixP (dv 0) di))))))), fun as Q h => ?_⟩
  unfold S_is_part at h
  split at h
  · unfold q_is_part at h
    rename_i x0
    refine at_env (b := [.dat x0]) rfl ?_
    exact Eq.mp (by kernel_rfl) h
  · exact h.elim
theorem ok_is_part (T : Tp K mg) (D_is_fraction : Dn P w K mg base Tb "is_fraction" 3 ["thing"] S_is_fraction) : Dn P w K mg base Tb "is_part" 4 ["thing"] S_is_part := by
  obtain ⟨kV, doc, pm, an, cdv, ct, Fn⟩ := T.fun_ "is_part" (top 43) 7 75
  exact ⟨⟨_, fg_is_part T D_is_fraction Fn, Fn.binds (ps := ["thing"]) fun _ _ _ _ _ _ us hl => match us, hl with | [_], _ => rfl⟩, T.glo "is_part" 24, T.keep "is_part" 75⟩
def kk_is_sale : RT → (PyData → Prop) := fun R v => R (.dat v) []
def em_is_sale_1 (i : PyData × PyData) (s : Unit) : List SD := [.dat i.1, .dat i.2, .un, .un]
def de_is_sale_1 : List SD → Option ((PyData × PyData) × (Unit))
  | [.dat x0, .dat x1, .un, .un] => some ((x0, x1), ())
  | _ => none
theorem hde_is_sale_1 : ∀ env i s, de_is_sale_1 env = some (i, s) → env = em_is_sale_1 i s := by
  intro env i s h
  unfold de_is_sale_1 at h
  split at h
  · cases h; rfl
  · cases h
def S_is_sale : DSp := fun as Q => match as with
  | [.dat x0] => q_is_sale x0 (kk_is_sale Q)
  | _ => False
theorem len_is_sale (as : List SD) (Q : SD → List SD → Prop) (h : S_is_sale as Q) : as.length = 1 := by
  unfold S_is_sale at h
  split at h
  · rfl
  · exact h.elim
theorem cels_is_sale : CelsIn 0 S_is_sale := by
  intro as Q h i p xs e
  unfold S_is_sale at h
  split at h
  · exact absurd e (no_cel (ds := [_]) i p xs)
  · exact h.elim
def N_is_sale : List Str := ["thing", "most", "number", "bound"]
theorem sc_is_sale : FnScope N_is_sale ["thing"] (defScope (top 44)) := ⟨rfl, rfl, rfl, by decide +kernel, rfl, by decide +kernel, by decide +kernel⟩
theorem fg_is_sale (T : Tp K mg) (D_is_part : Dn P w K mg base Tb "is_part" 4 ["thing"] S_is_part) (D_is_within : Dn P w K mg base Tb "is_within" 2 ["thing", "least", "most"] S_is_within) {fd : FuncData} (Fn : Fun K "is_sale" "is_sale" (top 44) (He.ga K "is_sale") fd) : FnG P w K mg base Tb 5 (He.ga K "is_sale") fd ["thing"] S_is_sale := by
  refine dfn 0 Fn sc_is_sale len_is_sale cels_is_sale fun cdv A outer s H hr hA => ⟨_, (scons (sif (tor (tnot (dtest (disi "tuple" "tuple" (m_isinstance T) (m_tuple T) (by decide +kernel) (by decide +kernel) (dv 0)))) (tor (dcmpT (op_neE hr.units) opd_ne (dlen (m_len T) (acons (dv 0) anil)) di (nomark _)) (tor1 (tnot (dtest (dfrz (dcn D_is_part (hr.mono (by decide)) hA (acons (dixP (dv 0) di) anil)))))))).pt (sone (sret (m := 0) (dx db))) snil) (scons (sset 1 sc_is_sale.nd (dx (dtup (acons (dnum (c_MOST_GROSS T)) (acons (dnum (c_MOST_GROSS T)) (acons (dnum (c_MOST_RATE T)) (acons (dnum (c_MOST_HEADS T)) (acons (dnum (c_MOST_BOUNTY T)) anil)))))))) (sone (sret (m := 0) (dx (dall (m_all T) rfl (acons (dfrz (dlc (dec := de_is_sale_1) (emb := em_is_sale_1) (qb := qb_is_sale_1) [("number", 2), ("bound", 3)] (.tup [2, 3]) hde_is_sale_1 rfl sc_is_sale.nd (izip (m_zip T) (acons (dv 0) (acons (dv 1) anil))) (blkOk_by (own := [("number", 2), ("bound", 3)]) (N := N_is_sale) (sc := defScope (top 44)) (by decide +kernel)) (fun _ _ _ _ _ => pg_tup rfl (pgs_cons (pg_name (i := 2) sc_is_sale.nd rfl (Or.inl rfl)) (pgs_cons (pg_name (i := 3) sc_is_sale.nd rfl (Or.inl rfl)) pgs_nil))) (fun _ _ _ _ _ => tyes) (fun _ _ _ _ _ => (dfrz (dcn D_is_within (hr.mono (by decide)) hA (acons (dv 2) (acons di (acons (dv 3) anil)))))) (fun d i s sk yd h => Eq.mp (by kernel_rfl) h))) anil))))))), fun as Q h => ?_⟩
  unfold S_is_sale at h
  split at h
  · unfold q_is_sale at h
    rename_i x0
    refine at_env (b := [.dat x0, .un, .un, .un]) rfl ?_
    exact Eq.mp (by kernel_rfl) h
  · exact h.elim
theorem ok_is_sale (T : Tp K mg) (D_is_part : Dn P w K mg base Tb "is_part" 4 ["thing"] S_is_part) (D_is_within : Dn P w K mg base Tb "is_within" 2 ["thing", "least", "most"] S_is_within) : Dn P w K mg base Tb "is_sale" 5 ["thing"] S_is_sale := by
  obtain ⟨kV, doc, pm, an, cdv, ct, Fn⟩ := T.fun_ "is_sale" (top 44) 8 76
  exact ⟨⟨_, fg_is_sale T D_is_part D_is_within Fn, Fn.binds (ps := ["thing"]) fun _ _ _ _ _ _ us hl => match us, hl with | [_], _ => rfl⟩, T.glo "is_sale" 25, T.keep "is_sale" 76⟩
def kk_need_sale : RT → (PyData → Prop) := fun R v => R (.dat v) []
def S_need_sale : DSpX := fun as Q E => match as with
  | [.dat x0] => q_need_sale x0 (kk_need_sale Q) E
  | _ => False
theorem len_need_sale (as : List SD) (Q : SD → List SD → Prop) (E : Str → Prop) (h : S_need_sale as Q E) : as.length = 1 := by
  unfold S_need_sale at h
  split at h
  · rfl
  · exact h.elim
theorem nc_need_sale (as : List SD) (Q : SD → List SD → Prop) (E : Str → Prop) (h : S_need_sale as Q E) : NoCel as := by
  intro i p xs e
  unfold S_need_sale at h
  split at h
  · exact absurd e (no_cel (ds := [_]) i p xs)
  · exact h.elim
def N_need_sale : List Str := ["thing"]
theorem sc_need_sale : FnScope N_need_sale ["thing"] (defScope (top 45)) := ⟨rfl, rfl, rfl, by decide +kernel, rfl, by decide +kernel, by decide +kernel⟩
theorem fg_need_sale (T : Tp K mg) (D_is_sale : Dn P w K mg base Tb "is_sale" 5 ["thing"] S_is_sale) {fd : FuncData} (Fn : Fun K "need_sale" "need_sale" (top 45) (He.ga K "need_sale") fd) : FnX P w K mg base Tb 6 (He.ga K "need_sale") fd ["thing"] S_need_sale := by
  refine dfnX Fn sc_need_sale len_need_sale nc_need_sale fun Ec cdv A outer s H E tk po hr hA => ⟨_, (sone (sif (tnot (dtest (dfrz (dcn D_is_sale (hr.mono (by decide)) hA (acons (dv 0) anil))))) (sone (sraise (ce_NoSale T) rfl tk)) snil)), fun as Q h => ?_⟩
  unfold S_need_sale at h
  split at h
  · unfold q_need_sale at h
    rename_i x0
    refine at_env (b := [.dat x0]) rfl ?_
    exact Eq.mp (by kernel_rfl) h
  · exact h.elim
theorem ok_need_sale (T : Tp K mg) (D_is_sale : Dn P w K mg base Tb "is_sale" 5 ["thing"] S_is_sale) : DnX P w K mg base Tb "need_sale" 6 ["thing"] S_need_sale := by
  obtain ⟨kV, doc, pm, an, cdv, ct, Fn⟩ := T.fun_ "need_sale" (top 45) 9 77
  exact ⟨⟨_, fg_need_sale T D_is_sale Fn, Fn.binds (ps := ["thing"]) fun _ _ _ _ _ _ us hl => match us, hl with | [_], _ => rfl⟩, T.glo "need_sale" 26, T.keep "need_sale" 77⟩
def kk_purse_of : RT → (PyData → Prop) := fun R v => R (.dat v) []
def S_purse_of : DSpX := fun as Q E => match as with
  | [.dat x0] => q_purse_of x0 (kk_purse_of Q) E
  | _ => False
theorem len_purse_of (as : List SD) (Q : SD → List SD → Prop) (E : Str → Prop) (h : S_purse_of as Q E) : as.length = 1 := by
  unfold S_purse_of at h
  split at h
  · rfl
  · exact h.elim
theorem nc_purse_of (as : List SD) (Q : SD → List SD → Prop) (E : Str → Prop) (h : S_purse_of as Q E) : NoCel as := by
  intro i p xs e
  unfold S_purse_of at h
  split at h
  · exact absurd e (no_cel (ds := [_]) i p xs)
  · exact h.elim
def N_purse_of : List Str := ["sale", "gross", "charges", "rate", "heads", "bounty", "part", "paid", "captors", "pot", "fee"]
theorem sc_purse_of : FnScope N_purse_of ["sale"] (defScope (top 46)) := ⟨rfl, rfl, rfl, by decide +kernel, rfl, by decide +kernel, by decide +kernel⟩
theorem fg_purse_of (T : Tp K mg) (D_need_sale : DnX P w K mg base Tb "need_sale" 6 ["thing"] S_need_sale) {fd : FuncData} (Fn : Fun K "purse_of" "purse_of" (top 46) (He.ga K "purse_of") fd) : FnX P w K mg base Tb 7 (He.ga K "purse_of") fd ["sale"] S_purse_of := by
  refine dfnX Fn sc_purse_of len_purse_of nc_purse_of fun Ec cdv A outer s H E tk po hr hA => ⟨_, (scons (sexpr (dcnE D_need_sale (hr.mono (by decide)) hA tk (acons (dv 0) anil))) (scons (sasg (dv 0) (gtup (gl_cons gok_n (gl_cons gok_n (gl_cons gok_n (gl_cons gok_n (gl_cons gok_n (gl_cons gok_n gl_nil)))))) rfl (gcons (gn 1 sc_purse_of.nd) (gcons (gn 2 sc_purse_of.nd) (gcons (gn 3 sc_purse_of.nd) (gcons (gn 4 sc_purse_of.nd) (gcons (gn 5 sc_purse_of.nd) (gcons (gn 6 sc_purse_of.nd) gnil)))))))) (scons (sset 7 sc_purse_of.nd (dx (dmin2 (m_min T) rfl (acons (dv 2) (acons (dv 1) anil))))) (scons (sset 8 sc_purse_of.nd (dx (ddiv (dmul (dsub (dv 1) (dv 7)) (dixP (dv 6) di)) (dixP (dv 6) di)))) (scons (sset 9 sc_purse_of.nd (dx (dadd (dv 8) (dmul (dv 4) (dv 5))))) (scons (sset 10 sc_purse_of.nd (dx (ddiv (dmul (dv 9) (dv 3)) (dnum (c_MOST_RATE T))))) (sone (sret (m := 0) (dx (dtup (acons (dv 7) (acons (dsub (dsub (dv 1) (dv 7)) (dv 8)) (acons (dv 10) (acons (dsub (dv 9) (dv 10)) anil)))))))))))))), fun as Q h => ?_⟩
  unfold S_purse_of at h
  split at h
  · unfold q_purse_of at h
    rename_i x0
    refine at_env (b := [.dat x0, .un, .un, .un, .un, .un, .un, .un, .un, .un, .un]) rfl ?_
    exact Eq.mp (by kernel_rfl) h
  · exact h.elim
theorem ok_purse_of (T : Tp K mg) (D_need_sale : DnX P w K mg base Tb "need_sale" 6 ["thing"] S_need_sale) : DnX P w K mg base Tb "purse_of" 7 ["sale"] S_purse_of := by
  obtain ⟨kV, doc, pm, an, cdv, ct, Fn⟩ := T.fun_ "purse_of" (top 46) 10 78
  exact ⟨⟨_, fg_purse_of T D_need_sale Fn, Fn.binds (ps := ["sale"]) fun _ _ _ _ _ _ us hl => match us, hl with | [_], _ => rfl⟩, T.glo "purse_of" 27, T.keep "purse_of" 78⟩
def kk_least_pot : RT → (PyData → Prop) := fun R v => R (.dat v) []
def S_least_pot : DSp := fun as Q => match as with
  | [.dat x0, .dat x1] => q_least_pot x0 x1 (kk_least_pot Q)
  | _ => False
theorem len_least_pot (as : List SD) (Q : SD → List SD → Prop) (h : S_least_pot as Q) : as.length = 2 := by
  unfold S_least_pot at h
  split at h
  · rfl
  · exact h.elim
theorem cels_least_pot : CelsIn 0 S_least_pot := by
  intro as Q h i p xs e
  unfold S_least_pot at h
  split at h
  · exact absurd e (no_cel (ds := [_, _]) i p xs)
  · exact h.elim
def N_least_pot : List Str := ["rate", "n"]
theorem sc_least_pot : FnScope N_least_pot ["rate", "n"] (defScope (top 47)) := ⟨rfl, rfl, rfl, by decide +kernel, rfl, by decide +kernel, by decide +kernel⟩
theorem fg_least_pot (T : Tp K mg)  {fd : FuncData} (Fn : Fun K "least_pot" "least_pot" (top 47) (He.ga K "least_pot") fd) : FnG P w K mg base Tb 1 (He.ga K "least_pot") fd ["rate", "n"] S_least_pot := by
  refine dfn 0 Fn sc_least_pot len_least_pot cels_least_pot fun cdv A outer s H hr hA => ⟨_, (scons (sif (dcmpT (op_eqE hr.units) opd_eq (dv 1) di (nomark _)) (sone (sret (m := 0) (dx di))) snil) (scons (sif (dcmpT (op_eqE hr.units) opd_eq (dv 0) (dnum (c_MOST_RATE T)) (nomark _)) (sone (sret (m := 0) (dx dn))) snil) (sone (sret (m := 0) (dx (dadd (ddiv (dmul (dsub (dv 1) di) (dnum (c_MOST_RATE T))) (dsub (dnum (c_MOST_RATE T)) (dv 0))) di)))))), fun as Q h => ?_⟩
  unfold S_least_pot at h
  split at h
  · unfold q_least_pot at h
    rename_i x0 x1
    refine at_env (b := [.dat x0, .dat x1]) rfl ?_
    exact Eq.mp (by kernel_rfl) h
  · exact h.elim
theorem ok_least_pot (T : Tp K mg)  : Dn P w K mg base Tb "least_pot" 1 ["rate", "n"] S_least_pot := by
  obtain ⟨kV, doc, pm, an, cdv, ct, Fn⟩ := T.fun_ "least_pot" (top 47) 11 79
  exact ⟨⟨_, fg_least_pot T  Fn, Fn.binds (ps := ["rate", "n"]) fun _ _ _ _ _ _ us hl => match us, hl with | [_, _], _ => rfl⟩, T.glo "least_pot" 28, T.keep "least_pot" 79⟩
def kk_least_gross : RT → (PyData → Prop) := fun R v => R (.dat v) []
def S_least_gross : DSpX := fun as Q E => match as with
  | [.dat x0, .dat x1] => q_least_gross x0 x1 (kk_least_gross Q) E
  | _ => False
theorem len_least_gross (as : List SD) (Q : SD → List SD → Prop) (E : Str → Prop) (h : S_least_gross as Q E) : as.length = 2 := by
  unfold S_least_gross at h
  split at h
  · rfl
  · exact h.elim
theorem nc_least_gross (as : List SD) (Q : SD → List SD → Prop) (E : Str → Prop) (h : S_least_gross as Q E) : NoCel as := by
  intro i p xs e
  unfold S_least_gross at h
  split at h
  · exact absurd e (no_cel (ds := [_, _]) i p xs)
  · exact h.elim
def N_least_gross : List Str := ["sale", "n", "gross", "charges", "rate", "heads", "bounty", "part", "pot", "captors"]
theorem sc_least_gross : FnScope N_least_gross ["sale", "n"] (defScope (top 48)) := ⟨rfl, rfl, rfl, by decide +kernel, rfl, by decide +kernel, by decide +kernel⟩
theorem fg_least_gross (T : Tp K mg) (D_least_pot : Dn P w K mg base Tb "least_pot" 1 ["rate", "n"] S_least_pot) (D_need_number : DnX P w K mg base Tb "need_number" 3 ["thing"] S_need_number) (D_need_sale : DnX P w K mg base Tb "need_sale" 6 ["thing"] S_need_sale) {fd : FuncData} (Fn : Fun K "least_gross" "least_gross" (top 48) (He.ga K "least_gross") fd) : FnX P w K mg base Tb 7 (He.ga K "least_gross") fd ["sale", "n"] S_least_gross := by
  refine dfnX Fn sc_least_gross len_least_gross nc_least_gross fun Ec cdv A outer s H E tk po hr hA => ⟨_, (scons (sexpr (dcnE D_need_sale (hr.mono (by decide)) hA tk (acons (dv 0) anil))) (scons (sexpr (dcnE D_need_number (hr.mono (by decide)) hA tk (acons (dv 1) anil))) (scons (sasg (dv 0) (gtup (gl_cons gok_n (gl_cons gok_n (gl_cons gok_n (gl_cons gok_n (gl_cons gok_n (gl_cons gok_n gl_nil)))))) rfl (gcons (gn 2 sc_least_gross.nd) (gcons (gn 3 sc_least_gross.nd) (gcons (gn 4 sc_least_gross.nd) (gcons (gn 5 sc_least_gross.nd) (gcons (gn 6 sc_least_gross.nd) (gcons (gn 7 sc_least_gross.nd) gnil)))))))) (scons (sset 8 sc_least_gross.nd (dcn D_least_pot (hr.mono (by decide)) hA (acons (dv 4) (acons (dv 1) anil)))) (ssforget [0, 1, 2, 4] (scons (sif (tisN (dv 8)) (sone (sret (m := 0) (dx dn))) snil) (scons (sset 9 sc_least_gross.nd (dx (dsub (dv 8) (dmul (dv 5) (dv 6))))) (ssforget [5, 6, 8] (scons (sif (dcmpT op_le opr_le (dv 9) di (nomark _)) (sone (sret (m := 0) (dx di))) snil) (scons (sif (dcmpT (op_eqE hr.units) opd_eq (dixP (dv 7) di) di (nomark _)) (sone (sret (m := 0) (dx dn))) snil) (sone (sret (m := 0) (dx (dadd (dadd (dv 3) (ddiv (dsub (dmul (dv 9) (dixP (dv 7) di)) di) (dixP (dv 7) di))) di)))))))))))))), fun as Q h => ?_⟩
  unfold S_least_gross at h
  split at h
  · unfold q_least_gross at h
    rename_i x0 x1
    refine at_env (b := [.dat x0, .dat x1, .un, .un, .un, .un, .un, .un, .un, .un]) rfl ?_
    exact Eq.mp (by kernel_rfl) h
  · exact h.elim
theorem ok_least_gross (T : Tp K mg) (D_least_pot : Dn P w K mg base Tb "least_pot" 1 ["rate", "n"] S_least_pot) (D_need_number : DnX P w K mg base Tb "need_number" 3 ["thing"] S_need_number) (D_need_sale : DnX P w K mg base Tb "need_sale" 6 ["thing"] S_need_sale) : DnX P w K mg base Tb "least_gross" 7 ["sale", "n"] S_least_gross := by
  obtain ⟨kV, doc, pm, an, cdv, ct, Fn⟩ := T.fun_ "least_gross" (top 48) 12 80
  exact ⟨⟨_, fg_least_gross T D_least_pot D_need_number D_need_sale Fn, Fn.binds (ps := ["sale", "n"]) fun _ _ _ _ _ _ us hl => match us, hl with | [_, _], _ => rfl⟩, T.glo "least_gross" 29, T.keep "least_gross" 80⟩
def kk_law_pot : RT → (List PyData → Prop) := fun R v => R (.cel false v) []
def S_law_pot : DSp := fun as Q => match as with
  | [.dat x0, .dat x1] => q_law_pot x0 x1 (kk_law_pot Q)
  | _ => False
theorem len_law_pot (as : List SD) (Q : SD → List SD → Prop) (h : S_law_pot as Q) : as.length = 2 := by
  unfold S_law_pot at h
  split at h
  · rfl
  · exact h.elim
theorem cels_law_pot : CelsIn 0 S_law_pot := by
  intro as Q h i p xs e
  unfold S_law_pot at h
  split at h
  · exact absurd e (no_cel (ds := [_, _]) i p xs)
  · exact h.elim
def N_law_pot : List Str := ["_law_script", "_law_k", "_law_cell"]
theorem sc_law_pot : FnScope N_law_pot ["_law_script", "_law_k"] (defScope (top 50)) := ⟨rfl, rfl, rfl, by decide +kernel, rfl, by decide +kernel, by decide +kernel⟩
theorem fg_law_pot (T : Tp K mg)  {fd : FuncData} (Fn : Fun K "_law_pot" "_law_pot" (top 50) (He.ga K "_law_pot") fd) : FnG P w K mg base Tb 1 (He.ga K "_law_pot") fd ["_law_script", "_law_k"] S_law_pot := by
  refine dfn 0 Fn sc_law_pot len_law_pot cels_law_pot fun cdv A outer s H hr hA => ⟨_, (scons (sset 2 sc_law_pot.nd (dx (dadd (dmul di (dv 1)) di))) (scons (sif (dcmpT op_ltA opr_ltA (dv 1) (dlen (m_len T) (acons (dv 0) anil)) (nomark _)) (sone (sset 2 sc_law_pot.nd (dx (dixP (dv 0) (dv 1))))) snil) (sone (sret (m := 0) (dlst (acons (dmod (dmax2 (m_max T) rfl (acons di (acons (dsub (dv 2) (dpow di di)) anil))) (dpow (dpow di di) di)) (acons (dadd (dmod (dv 2) di) (dmul di (dv 1))) (acons di anil)))))))), fun as Q h => ?_⟩
  unfold S_law_pot at h
  split at h
  · unfold q_law_pot at h
    rename_i x0 x1
    refine at_env (b := [.dat x0, .dat x1, .un]) rfl ?_
    exact Eq.mp (by kernel_rfl) h
  · exact h.elim
theorem ok_law_pot (T : Tp K mg)  : Dn P w K mg base Tb "_law_pot" 1 ["_law_script", "_law_k"] S_law_pot := by
  obtain ⟨kV, doc, pm, an, cdv, ct, Fn⟩ := T.fun_ "_law_pot" (top 50) 13 81
  exact ⟨⟨_, fg_law_pot T  Fn, Fn.binds (ps := ["_law_script", "_law_k"]) fun _ _ _ _ _ _ us hl => match us, hl with | [_, _], _ => rfl⟩, T.glo "_law_pot" 30, T.keep "_law_pot" 81⟩
def kk_law_take : RT → (PyData → List PyData → Prop) := fun R v c => R (.dat v) [.cel true c]
def S_law_take : DSp := fun as Q => match as with
  | [.cel true x0, .dat x1] => q_law_take x0 x1 (kk_law_take Q)
  | _ => False
theorem len_law_take (as : List SD) (Q : SD → List SD → Prop) (h : S_law_take as Q) : as.length = 2 := by
  unfold S_law_take at h
  split at h
  · rfl
  · exact h.elim
theorem cels_law_take : CelsIn 1 S_law_take := by
  intro as Q h i p xs e
  unfold S_law_take at h
  split at h
  · exact cels1 (ds := [_]) e
  · exact h.elim
def N_law_take : List Str := ["_law_pot_here", "_law_many", "_law_digit", "_law_one", "_law_other"]
theorem sc_law_take : FnScope N_law_take ["_law_pot_here", "_law_many"] (defScope (top 51)) := ⟨rfl, rfl, rfl, by decide +kernel, rfl, by decide +kernel, by decide +kernel⟩
theorem fg_law_take (T : Tp K mg)  {fd : FuncData} (Fn : Fun K "_law_take" "_law_take" (top 51) (He.ga K "_law_take") fd) : FnG P w K mg base Tb 1 (He.ga K "_law_take") fd ["_law_pot_here", "_law_many"] S_law_take := by
  refine dfn 1 Fn sc_law_take len_law_take cels_law_take fun cdv A outer s H hr hA => ⟨_, (scons (sif (dcmpT op_gt opr_gt (dixC 0 di) di (nomark _)) (scons (sset 2 sc_law_take.nd (dx (dmod (dixC 0 di) (dv 1)))) (scons (ssetC 0 (ddiv (dixC 0 di) (dv 1)) di) (sone (sret (m := 1) (dx (dv 2)))))) snil) (scons (ssetC 0 (dadd (dixC 0 di) di) di) (scons (sset 3 sc_law_take.nd (dx (dmod (dpow (dadd (dadd (dixC 0 di) (dmul di (dixC 0 di))) di) di) di))) (scons (sset 4 sc_law_take.nd (dx (dmod (dpow (dadd (dadd (ddiv (dv 3) di) (dmul (dmul di (dixC 0 di)) (dixC 0 di))) di) di) di))) (sone (sret (m := 1) (dx (dmod (dadd (ddiv (dv 3) di) (dmul di (ddiv (dv 4) di))) (dv 1))))))))), fun as Q h => ?_⟩
  unfold S_law_take at h
  split at h
  · unfold q_law_take at h
    rename_i x0 x1
    refine at_env (b := [.cel true x0, .dat x1, .un, .un, .un]) rfl ?_
    exact Eq.mp (by kernel_rfl) h
  · exact h.elim
theorem ok_law_take (T : Tp K mg)  : Dn P w K mg base Tb "_law_take" 1 ["_law_pot_here", "_law_many"] S_law_take := by
  obtain ⟨kV, doc, pm, an, cdv, ct, Fn⟩ := T.fun_ "_law_take" (top 51) 14 82
  exact ⟨⟨_, fg_law_take T  Fn, Fn.binds (ps := ["_law_pot_here", "_law_many"]) fun _ _ _ _ _ _ us hl => match us, hl with | [_, _], _ => rfl⟩, T.glo "_law_take" 31, T.keep "_law_take" 82⟩
def kk_law_fraction : RT → (PyData → Prop) := fun R v => R (.dat v) []
def em_law_fraction_1 (i : PyData × PyData) (s : PyData × PyData) : List SD := [.dat i.1, .dat i.2, .dat s.1, .dat s.2]
def de_law_fraction_1 : List SD → Option ((PyData × PyData) × (PyData × PyData))
  | [.dat x0, .dat x1, .dat x2, .dat x3] => some ((x0, x1), (x2, x3))
  | _ => none
theorem hde_law_fraction_1 : ∀ env i s, de_law_fraction_1 env = some (i, s) → env = em_law_fraction_1 i s := by
  intro env i s h
  unfold de_law_fraction_1 at h
  split at h
  · cases h; rfl
  · cases h
def S_law_fraction : DSp := fun as Q => match as with
  | [.dat x0, .dat x1] => q_law_fraction x0 x1 (kk_law_fraction Q)
  | _ => False
theorem len_law_fraction (as : List SD) (Q : SD → List SD → Prop) (h : S_law_fraction as Q) : as.length = 2 := by
  unfold S_law_fraction at h
  split at h
  · rfl
  · exact h.elim
theorem cels_law_fraction : CelsIn 0 S_law_fraction := by
  intro as Q h i p xs e
  unfold S_law_fraction at h
  split at h
  · exact absurd e (no_cel (ds := [_, _]) i p xs)
  · exact h.elim
def N_law_fraction : List Str := ["_law_p", "_law_q", "_law_one", "_law_other"]
theorem sc_law_fraction : FnScope N_law_fraction ["_law_p", "_law_q"] (defScope (top 52)) := ⟨rfl, rfl, rfl, by decide +kernel, rfl, by decide +kernel, by decide +kernel⟩
theorem fg_law_fraction (T : Tp K mg)  {fd : FuncData} (Fn : Fun K "_law_fraction" "_law_fraction" (top 52) (He.ga K "_law_fraction") fd) : FnG P w K mg base Tb 1 (He.ga K "_law_fraction") fd ["_law_p", "_law_q"] S_law_fraction := by
  refine dfn 0 Fn sc_law_fraction len_law_fraction cels_law_fraction fun cdv A outer s H hr hA => ⟨_, (scons (spar 2 3 rfl sc_law_fraction.nd (acons (dabs (m_abs T) (acons (dv 0) anil)) (acons (dv 1) anil))) (scons (swhileQ [] de_law_fraction_1 em_law_fraction_1 kk_law_fraction qb_law_fraction_1 hde_law_fraction_1 PassesOwn.never (dcmpT op_gt opr_gt (dv 3) di (nomark _)) (sone (spar 2 3 rfl sc_law_fraction.nd (acons (dv 3) (acons (dmod (dv 2) (dv 3)) anil)))) (fun R i s nx bk h => Eq.mp (by kernel_rfl) h)) (sone (sret (m := 0) (dx (dtup (acons (ddiv (dv 0) (dv 2)) (acons (ddiv (dv 1) (dv 2)) anil)))))))), fun as Q h => ?_⟩
  unfold S_law_fraction at h
  split at h
  · unfold q_law_fraction at h
    rename_i x0 x1
    refine at_env (b := [.dat x0, .dat x1, .un, .un]) rfl ?_
    exact Eq.mp (by kernel_rfl) h
  · exact h.elim
theorem ok_law_fraction (T : Tp K mg)  : Dn P w K mg base Tb "_law_fraction" 1 ["_law_p", "_law_q"] S_law_fraction := by
  obtain ⟨kV, doc, pm, an, cdv, ct, Fn⟩ := T.fun_ "_law_fraction" (top 52) 15 83
  exact ⟨⟨_, fg_law_fraction T  Fn, Fn.binds (ps := ["_law_p", "_law_q"]) fun _ _ _ _ _ _ us hl => match us, hl with | [_, _], _ => rfl⟩, T.glo "_law_fraction" 32, T.keep "_law_fraction" 83⟩
def kk_law_number : RT → (PyData → List PyData → Prop) := fun R v c => R (.dat v) [.cel true c]
def S_law_number : DSp := fun as Q => match as with
  | [.cel true x0, .dat x1] => q_law_number x0 x1 (kk_law_number Q)
  | _ => False
theorem len_law_number (as : List SD) (Q : SD → List SD → Prop) (h : S_law_number as Q) : as.length = 2 := by
  unfold S_law_number at h
  split at h
  · rfl
  · exact h.elim
theorem cels_law_number : CelsIn 1 S_law_number := by
  intro as Q h i p xs e
  unfold S_law_number at h
  split at h
  · exact cels1 (ds := [_]) e
  · exact h.elim
def N_law_number : List Str := ["_law_pot_here", "_law_most", "_law_way", "_law_few"]
theorem sc_law_number : FnScope N_law_number ["_law_pot_here", "_law_most"] (defScope (top 53)) := ⟨rfl, rfl, rfl, by decide +kernel, rfl, by decide +kernel, by decide +kernel⟩
theorem fg_law_number (T : Tp K mg) (D_law_take : Dn P w K mg base Tb "_law_take" 1 ["_law_pot_here", "_law_many"] S_law_take) {fd : FuncData} (Fn : Fun K "_law_number" "_law_number" (top 53) (He.ga K "_law_number") fd) : FnG P w K mg base Tb 2 (He.ga K "_law_number") fd ["_law_pot_here", "_law_most"] S_law_number := by
  refine dfn 1 Fn sc_law_number len_law_number cels_law_number fun cdv A outer s H hr hA => ⟨_, (scons (sset 2 sc_law_number.nd (dcnC 0 D_law_take (hr.mono (by decide)) hA (acons di anil))) (scons (sset 3 sc_law_number.nd (dcnC 0 D_law_take (hr.mono (by decide)) hA (acons di anil))) (sone (sret (m := 1) (dx (dixP (dfrz (dlst (acons di (acons (dmin2 (m_min T) rfl (acons (dv 1) (acons (dv 3) anil))) (acons (dfrz (dcnC 0 D_law_take (hr.mono (by decide)) hA (acons (dadd (dv 1) di) anil))) (acons (dsub (dv 1) (dmin2 (m_min T) rfl (acons (dv 1) (acons (dmod (dv 3) di) anil)))) (acons (dmin2 (m_min T) rfl (acons (dv 1) (acons (dixP (dfrz (dlst (acons di (acons di (acons di (acons di (acons (dpow di di) (acons (dpow di di) (acons (dpow di di) anil))))))))) (dmod (dv 3) di)) anil))) anil))))))) (dv 2))))))), fun as Q h => ?_⟩
  unfold S_law_number at h
  split at h
  · unfold q_law_number at h
    rename_i x0 x1
    refine at_env (b := [.cel true x0, .dat x1, .un, .un]) rfl ?_
    exact Eq.mp (by kernel_rfl) h
  · exact h.elim
theorem ok_law_number (T : Tp K mg) (D_law_take : Dn P w K mg base Tb "_law_take" 1 ["_law_pot_here", "_law_many"] S_law_take) : Dn P w K mg base Tb "_law_number" 2 ["_law_pot_here", "_law_most"] S_law_number := by
  obtain ⟨kV, doc, pm, an, cdv, ct, Fn⟩ := T.fun_ "_law_number" (top 53) 16 84
  exact ⟨⟨_, fg_law_number T D_law_take Fn, Fn.binds (ps := ["_law_pot_here", "_law_most"]) fun _ _ _ _ _ _ us hl => match us, hl with | [_, _], _ => rfl⟩, T.glo "_law_number" 33, T.keep "_law_number" 84⟩
def kk_law_sale : RT → (PyData → List PyData → Prop) := fun R v c => R (.dat v) [.cel true c]
def S_law_sale : DSp := fun as Q => match as with
  | [.cel true x0] => q_law_sale x0 (kk_law_sale Q)
  | _ => False
theorem len_law_sale (as : List SD) (Q : SD → List SD → Prop) (h : S_law_sale as Q) : as.length = 1 := by
  unfold S_law_sale at h
  split at h
  · rfl
  · exact h.elim
theorem cels_law_sale : CelsIn 1 S_law_sale := by
  intro as Q h i p xs e
  unfold S_law_sale at h
  split at h
  · exact cels1 (ds := []) e
  · exact h.elim
def N_law_sale : List Str := ["_law_pot_here", "_law_gross", "_law_charges", "_law_rate", "_law_bottom", "_law_top", "_law_heads"]
theorem sc_law_sale : FnScope N_law_sale ["_law_pot_here"] (defScope (top 54)) := ⟨rfl, rfl, rfl, by decide +kernel, rfl, by decide +kernel, by decide +kernel⟩
theorem fg_law_sale (T : Tp K mg) (D_law_fraction : Dn P w K mg base Tb "_law_fraction" 1 ["_law_p", "_law_q"] S_law_fraction) (D_law_number : Dn P w K mg base Tb "_law_number" 2 ["_law_pot_here", "_law_most"] S_law_number) (D_law_take : Dn P w K mg base Tb "_law_take" 1 ["_law_pot_here", "_law_many"] S_law_take) {fd : FuncData} (Fn : Fun K "_law_sale" "_law_sale" (top 54) (He.ga K "_law_sale") fd) : FnG P w K mg base Tb 3 (He.ga K "_law_sale") fd ["_law_pot_here"] S_law_sale := by
  refine dfn 1 Fn sc_law_sale len_law_sale cels_law_sale fun cdv A outer s H hr hA => ⟨_, (scons (sset 1 sc_law_sale.nd (dcnC 0 D_law_number (hr.mono (by decide)) hA (acons (dpow di di) anil))) (scons (sset 2 sc_law_sale.nd (dx (dixP (dfrz (dlst (acons (dfrz (dcnC 0 D_law_number (hr.mono (by decide)) hA (acons (dpow di di) anil))) (acons (dv 1) (acons (ddiv (dv 1) di) (acons di anil)))))) (dfrz (dcnC 0 D_law_take (hr.mono (by decide)) hA (acons di anil)))))) (scons (sset 3 sc_law_sale.nd (dx (dixP (dfrz (dlst (acons (dfrz (dcnC 0 D_law_take (hr.mono (by decide)) hA (acons di anil))) (acons di (acons di (acons di (acons di anil))))))) (dfrz (dcnC 0 D_law_take (hr.mono (by decide)) hA (acons di anil)))))) (scons (sset 4 sc_law_sale.nd (dx (dadd di (dfrz (dcnC 0 D_law_number (hr.mono (by decide)) hA (acons (dixP (dfrz (dlst (acons di (acons (dpow di di) (acons (dpow di di) anil))))) (dfrz (dcnC 0 D_law_take (hr.mono (by decide)) hA (acons di anil)))) anil)))))) (scons (sset 5 sc_law_sale.nd (dx (dixP (dfrz (dlst (acons (dfrz (dcnC 0 D_law_take (hr.mono (by decide)) hA (acons (dadd (dv 4) di) anil))) (acons di (acons (dv 4) (acons di anil)))))) (dfrz (dcnC 0 D_law_take (hr.mono (by decide)) hA (acons di anil)))))) (scons (sset 6 sc_law_sale.nd (dcnC 0 D_law_number (hr.mono (by decide)) hA (acons di anil))) (sone (sret (m := 1) (dx (dtup (acons (dv 1) (acons (dv 2) (acons (dv 3) (acons (dv 6) (acons (dfrz (dcnC 0 D_law_number (hr.mono (by decide)) hA (acons (dpow di di) anil))) (acons (dfrz (dcn D_law_fraction (hr.mono (by decide)) hA (acons (dv 5) (acons (dv 4) anil)))) anil)))))))))))))))), fun as Q h => ?_⟩
  unfold S_law_sale at h
  split at h
  · unfold q_law_sale at h
    rename_i x0
    refine at_env (b := [.cel true x0, .un, .un, .un, .un, .un, .un]) rfl ?_
    exact Eq.mp (by kernel_rfl) h
  · exact h.elim
theorem ok_law_sale (T : Tp K mg) (D_law_fraction : Dn P w K mg base Tb "_law_fraction" 1 ["_law_p", "_law_q"] S_law_fraction) (D_law_number : Dn P w K mg base Tb "_law_number" 2 ["_law_pot_here", "_law_most"] S_law_number) (D_law_take : Dn P w K mg base Tb "_law_take" 1 ["_law_pot_here", "_law_many"] S_law_take) : Dn P w K mg base Tb "_law_sale" 3 ["_law_pot_here"] S_law_sale := by
  obtain ⟨kV, doc, pm, an, cdv, ct, Fn⟩ := T.fun_ "_law_sale" (top 54) 17 85
  exact ⟨⟨_, fg_law_sale T D_law_fraction D_law_number D_law_take Fn, Fn.binds (ps := ["_law_pot_here"]) fun _ _ _ _ _ _ us hl => match us, hl with | [_], _ => rfl⟩, T.glo "_law_sale" 34, T.keep "_law_sale" 85⟩
def kk_law_odd : RT → (PyData → List PyData → Prop) := fun R v c => R (.dat v) [.cel true c]
def S_law_odd : DSp := fun as Q => match as with
  | [.cel true x0, .dat x1] => q_law_odd x0 x1 (kk_law_odd Q)
  | _ => False
theorem len_law_odd (as : List SD) (Q : SD → List SD → Prop) (h : S_law_odd as Q) : as.length = 2 := by
  unfold S_law_odd at h
  split at h
  · rfl
  · exact h.elim
theorem cels_law_odd : CelsIn 1 S_law_odd := by
  intro as Q h i p xs e
  unfold S_law_odd at h
  split at h
  · exact cels1 (ds := [_]) e
  · exact h.elim
def N_law_odd : List Str := ["_law_pot_here", "_law_sale_here", "_law_way", "_law_at", "_law_pick", "_law_most", "_law_odd_here", "_law_p", "_law_q", "_law_by", "_law_parts"]
theorem sc_law_odd : FnScope N_law_odd ["_law_pot_here", "_law_sale_here"] (defScope (top 55)) := ⟨rfl, rfl, rfl, by decide +kernel, rfl, by decide +kernel, by decide +kernel⟩
theorem fg_law_odd (T : Tp K mg) (D_law_take : Dn P w K mg base Tb "_law_take" 1 ["_law_pot_here", "_law_many"] S_law_take) {fd : FuncData} (Fn : Fun K "_law_odd" "_law_odd" (top 55) (He.ga K "_law_odd") fd) : FnG P w K mg base Tb 2 (He.ga K "_law_odd") fd ["_law_pot_here", "_law_sale_here"] S_law_odd := by
  refine dfn 1 Fn sc_law_odd len_law_odd cels_law_odd fun cdv A outer s H hr hA => ⟨_, (scons (sset 2 sc_law_odd.nd (dcnC 0 D_law_take (hr.mono (by decide)) hA (acons di anil))) (scons (sset 3 sc_law_odd.nd (dcnC 0 D_law_take (hr.mono (by decide)) hA (acons di anil))) (scons (sset 4 sc_law_odd.nd (dcnC 0 D_law_take (hr.mono (by decide)) hA (acons di anil))) (scons (sset 5 sc_law_odd.nd (dx (dfrz (dlst (acons (dpow di di) (acons (dpow di di) (acons di (acons di (acons (dpow di di) (acons di anil)))))))))) (scons (sset 6 sc_law_odd.nd (dx (dixP (dfrz (dlst (acons (dadd (dixP (dv 5) (dv 3)) di) (acons (dneg di) (acons db (acons db (acons dn (acons ds (acons (dtup (acons di anil)) (acons (dfrz (dlst (acons di anil))) (acons (dpow di di) (acons (dixP (dv 5) (dv 3)) (acons di (acons ddict0 anil)))))))))))))) (dv 4)))) (ssforget [5] (scons (sif (dcmpT op_ltA opr_ltA (dv 2) di (nomark _)) (sone (sret (m := 1) (dx (dadd (dadd (dsl (dv 1) so_none (so_some (dv 3))) (dtup (acons (dv 6) anil))) (dsl (dv 1) (so_some (dadd (dv 3) di)) so_none))))) snil) (ssforget [6] (scons (sif (dcmpT (op_eqE hr.units) opd_eq (dv 2) di (nomark _)) (scons (sasg (dixP (dv 1) di) (gtup (gl_cons gok_n (gl_cons gok_n gl_nil)) rfl (gcons (gn 7 sc_law_odd.nd) (gcons (gn 8 sc_law_odd.nd) gnil)))) (scons (sset 9 sc_law_odd.nd (dx (dixP (dfrz (dlst (acons di (acons di (acons di (acons di (acons di (acons (dadd (dpow di di) di) anil)))))))) (dfrz (dcnC 0 D_law_take (hr.mono (by decide)) hA (acons di anil)))))) (scons (sset 10 sc_law_odd.nd (dx (dfrz (dlst (acons (dtup (acons (dmul (dv 9) (dv 7)) (acons (dmul (dv 9) (dv 8)) anil))) (acons (dtup (acons (dadd (dv 8) (dv 9)) (acons (dv 8) anil))) (acons (dtup (acons (dsub di (dv 9)) (acons (dv 8) anil))) (acons (dtup (acons (dv 7) (acons di anil))) (acons (dtup (acons (dv 7) (acons (dsub di (dv 8)) anil))) (acons (dfrz (dlst (acons (dv 7) (acons (dv 8) anil)))) (acons (dtup (acons (dv 7) (acons (dv 8) (acons di anil)))) (acons (dtup (acons (dv 7) anil)) (acons (dtup (acons db (acons di anil))) anil))))))))))))) (sone (sret (m := 1) (dx (dadd (dsl (dv 1) so_none (so_some di)) (dtup (acons (dixP (dadd (dv 10) (dfrz (dlst (acons (dtup (acons di (acons di anil))) (acons (dtup (acons di (acons di anil))) (acons dn anil)))))) (dv 4)) anil))))))))) snil) (scons (sif (dcmpT (op_eqE hr.units) opd_eq (dv 2) di (nomark _)) (sone (sret (m := 1) (dx (dadd (dsl (dv 1) so_none (so_some (dv 3))) (dsl (dv 1) (so_some (dsub (dadd (dv 3) di) (dmul di (dmod (dv 4) di)))) so_none))))) snil) (sone (sret (m := 1) (dx (dixP (dfrz (dlst (acons (dfrz (dlistOf (m_list T) (acons (dv 1) anil))) (acons (drevA (dv 1)) (acons (dadd (dv 1) (dtup (acons di anil))) (acons (dtup anil) (acons dn (acons di (acons ds (acons db (acons ddict0 (acons (dsl (dv 1) so_none (so_some di)) (acons (dtup (acons (dv 1) anil)) (acons (dv 1) anil)))))))))))))) (dv 4))))))))))))))), fun as Q h => ?_⟩
  unfold S_law_odd at h
  split at h
  · unfold q_law_odd at h
    rename_i x0 x1
    refine at_env (b := [.cel true x0, .dat x1, .un, .un, .un, .un, .un, .un, .un, .un, .un]) rfl ?_
    exact Eq.mp (by kernel_rfl) h
  · exact h.elim
theorem ok_law_odd (T : Tp K mg) (D_law_take : Dn P w K mg base Tb "_law_take" 1 ["_law_pot_here", "_law_many"] S_law_take) : Dn P w K mg base Tb "_law_odd" 2 ["_law_pot_here", "_law_sale_here"] S_law_odd := by
  obtain ⟨kV, doc, pm, an, cdv, ct, Fn⟩ := T.fun_ "_law_odd" (top 55) 18 86
  exact ⟨⟨_, fg_law_odd T D_law_take Fn, Fn.binds (ps := ["_law_pot_here", "_law_sale_here"]) fun _ _ _ _ _ _ us hl => match us, hl with | [_, _], _ => rfl⟩, T.glo "_law_odd" 35, T.keep "_law_odd" 86⟩
def kk_law_is_sale : RT → (PyData → Prop) := fun R v => R (.dat v) []
def em_law_is_sale_1 (i : PyData) (s : Unit) : List SD := [.dat i, .un, .un, .un]
def de_law_is_sale_1 : List SD → Option ((PyData) × (Unit))
  | [.dat x0, .un, .un, .un] => some (x0, ())
  | _ => none
theorem hde_law_is_sale_1 : ∀ env i s, de_law_is_sale_1 env = some (i, s) → env = em_law_is_sale_1 i s := by
  intro env i s h
  unfold de_law_is_sale_1 at h
  split at h
  · cases h; rfl
  · cases h
def em_law_is_sale_2 (i : PyData) (s : Unit) : List SD := [.un, .un, .un, .dat i]
def de_law_is_sale_2 : List SD → Option ((PyData) × (Unit))
  | [.un, .un, .un, .dat x3] => some (x3, ())
  | _ => none
theorem hde_law_is_sale_2 : ∀ env i s, de_law_is_sale_2 env = some (i, s) → env = em_law_is_sale_2 i s := by
  intro env i s h
  unfold de_law_is_sale_2 at h
  split at h
  · cases h; rfl
  · cases h
def S_law_is_sale : DSp := fun as Q => match as with
  | [.dat x0] => q_law_is_sale x0 (kk_law_is_sale Q)
  | _ => False
theorem len_law_is_sale (as : List SD) (Q : SD → List SD → Prop) (h : S_law_is_sale as Q) : as.length = 1 := by
  unfold S_law_is_sale at h
  split at h
  · rfl
  · exact h.elim
theorem cels_law_is_sale : CelsIn 0 S_law_is_sale := by
  intro as Q h i p xs e
  unfold S_law_is_sale at h
  split at h
  · exact absurd e (no_cel (ds := [_]) i p xs)
  · exact h.elim
def N_law_is_sale : List Str := ["_law_thing", "_law_number_here", "_law_most", "_law_part"]
theorem sc_law_is_sale : FnScope N_law_is_sale ["_law_thing"] (defScope (top 56)) := ⟨rfl, rfl, rfl, by decide +kernel, rfl, by decide +kernel, by decide +kernel⟩
theorem fg_law_is_sale (T : Tp K mg) (D_law_fraction : Dn P w K mg base Tb "_law_fraction" 1 ["_law_p", "_law_q"] S_law_fraction) {fd : FuncData} (Fn : Fun K "_law_is_sale" "_law_is_sale" (top 56) (He.ga K "_law_is_sale") fd) : FnG P w K mg base Tb 2 (He.ga K "_law_is_sale") fd ["_law_thing"] S_law_is_sale := by
  refine dfn 0 Fn sc_law_is_sale len_law_is_sale cels_law_is_sale fun cdv A outer s H hr hA => ⟨_, (scons (sif (tor (tnot (dtest (disi "tuple" "tuple" (m_isinstance T) (m_tuple T) (by decide +kernel) (by decide +kernel) (dv 0)))) (tor1 (dcmpT (op_neE hr.units) opd_ne (dlen (m_len T) (acons (dv 0) anil)) di (nomark _)))).pt (sone (sret (m := 0) (dx db))) snil) (scons (sforQ [1, 2] de_law_is_sale_1 em_law_is_sale_1 kk_law_is_sale qb_law_is_sale_1 hde_law_is_sale_1 PassesOwn.never rfl (izip2A (m_zip T) (acons (dv 0) (acons (dfrz (dlst (acons (dpow di di) (acons (dpow di di) (acons di (acons di (acons (dpow di di) anil))))))) anil))) (gtup (gl_cons gok_n (gl_cons gok_n gl_nil)) rfl (gcons (gn 1 sc_law_is_sale.nd) (gcons (gn 2 sc_law_is_sale.nd) gnil))) (sone (sif (tor (tnot (dtest (disi "int" "int" (m_isinstance T) (m_int T) (by decide +kernel) (by decide +kernel) (dv 1)))) (tor (dtest (disi "bool" "bool" (m_isinstance T) (m_bool T) (by decide +kernel) (by decide +kernel) (dv 1))) (tor1 (tnot (dchainT op_le op_le opr_le opr_le di (dv 1) (dv 2)))))).pt (sone (sret (m := 0) (dx db))) snil)) (fun R d i s nx bk h => Eq.mp (by kernel_rfl) h)) (scons (sset 3 sc_law_is_sale.nd (dx (dixP (dv 0) di))) (ssforget [0] (scons (sif (tor (tnot (dtest (disi "tuple" "tuple" (m_isinstance T) (m_tuple T) (by decide +kernel) (by decide +kernel) (dv 3)))) (tor1 (dcmpT (op_neE hr.units) opd_ne (dlen (m_len T) (acons (dv 3) anil)) di (nomark _)))).pt (sone (sret (m := 0) (dx db))) snil) (scons (sforQ [1] de_law_is_sale_2 em_law_is_sale_2 kk_law_is_sale qb_law_is_sale_2 hde_law_is_sale_2 PassesOwn.never rfl (iseq (dv 3)) (gn 1 sc_law_is_sale.nd) (sone (sif (tor (tnot (dtest (disi "int" "int" (m_isinstance T) (m_int T) (by decide +kernel) (by decide +kernel) (dv 1)))) (tor1 (dtest (disi "bool" "bool" (m_isinstance T) (m_bool T) (by decide +kernel) (by decide +kernel) (dv 1))))).pt (sone (sret (m := 0) (dx db))) snil)) (fun R d i s nx bk h => Eq.mp (by kernel_rfl) h)) (sone (sret (m := 0) (dx (dandV (dchain op_le op_le opr_le opr_le di (dixP (dv 3) di) (dixP (dv 3) di)) (dandV (dcmp op_gt opr_gt (dixP (dv 3) di) di (nomark _)) (done (dcmp (op_eqE hr.units) opd_eq (dfrz (dcn D_law_fraction (hr.mono (by decide)) hA (acons (dixP (dv 3) di) (acons (dixP (dv 3) di) anil)))) (dv 3) (nomark _)))))))))))))), fun as Q h => ?_⟩
  unfold S_law_is_sale at h
  split at h
  · unfold q_law_is_sale at h
    rename_i x0
    refine at_env (b := [.dat x0, .un, .un, .un]) rfl ?_
    exact Eq.mp (by kernel_rfl) h
  · exact h.elim
theorem ok_law_is_sale (T : Tp K mg) (D_law_fraction : Dn P w K mg base Tb "_law_fraction" 1 ["_law_p", "_law_q"] S_law_fraction) : Dn P w K mg base Tb "_law_is_sale" 2 ["_law_thing"] S_law_is_sale := by
  obtain ⟨kV, doc, pm, an, cdv, ct, Fn⟩ := T.fun_ "_law_is_sale" (top 56) 19 87
  exact ⟨⟨_, fg_law_is_sale T D_law_fraction Fn, Fn.binds (ps := ["_law_thing"]) fun _ _ _ _ _ _ us hl => match us, hl with | [_], _ => rfl⟩, T.glo "_law_is_sale" 36, T.keep "_law_is_sale" 87⟩
def kk_law_word : RT → (PyData → Prop) := fun R v => R (.dat v) []
def em_law_word_1 (i : PyData × PyData) (s : Unit) : List SD := [.un, .dat i.1, .dat i.2, .un, .un]
def de_law_word_1 : List SD → Option ((PyData × PyData) × (Unit))
  | [.un, .dat x1, .dat x2, .un, .un] => some ((x1, x2), ())
  | _ => none
theorem hde_law_word_1 : ∀ env i s, de_law_word_1 env = some (i, s) → env = em_law_word_1 i s := by
  intro env i s h
  unfold de_law_word_1 at h
  split at h
  · cases h; rfl
  · cases h
def S_law_word : DSp := fun as Q => match as with
  | [.dat x0] => q_law_word x0 (kk_law_word Q)
  | _ => False
theorem len_law_word (as : List SD) (Q : SD → List SD → Prop) (h : S_law_word as Q) : as.length = 1 := by
  unfold S_law_word at h
  split at h
  · rfl
  · exact h.elim
theorem cels_law_word : CelsIn 0 S_law_word := by
  intro as Q h i p xs e
  unfold S_law_word at h
  split at h
  · exact absurd e (no_cel (ds := [_]) i p xs)
  · exact h.elim
def N_law_word : List Str := ["_law_caught", "_law_names", "_law_some", "_law_name", "_law_here"]
theorem sc_law_word : FnScope N_law_word ["_law_caught"] (defScope (top 57)) := ⟨rfl, rfl, rfl, by decide +kernel, rfl, by decide +kernel, by decide +kernel⟩
theorem fg_law_word (T : Tp K mg)  {fd : FuncData} (Fn : Fun K "_law_word" "_law_word" (top 57) (He.ga K "_law_word") fd) : FnC P w K mg base Tb 1 (He.ga K "_law_word") fd ["_law_caught"] S_law_word := by
  refine dfnC 0 Fn sc_law_word len_law_word cels_law_word fun cdv A outer s H pp hot hr hA => ⟨_, (scons (sset 1 sc_law_word.nd (dx (dfrz (dlst (acons ds (acons ds (acons ds (acons ds (acons ds (acons ds (acons ds (acons ds (acons ds (acons ds (acons ds (acons ds anil)))))))))))))))) (scons (sset 2 sc_law_word.nd (dx (dfrz (dlst (acons (disx (m_isinstance T) (gl_NoWeights T) (by decide +kernel) (dv 0)) (acons (disx (m_isinstance T) (gl_NoPart T) (by decide +kernel) (dv 0)) (acons (disx (m_isinstance T) (gl_NoNumber T) (by decide +kernel) (dv 0)) anil))))))) (scons (sset 2 sc_law_word.nd (dx (dadd (dv 2) (dfrz (dlst (acons (disx (m_isinstance T) (gl_NoLog T) (by decide +kernel) (dv 0)) (acons (disx (m_isinstance T) (gl_NoChase T) (by decide +kernel) (dv 0)) (acons (disx (m_isinstance T) (gl_NoMiles T) (by decide +kernel) (dv 0)) anil)))))))) (scons (sset 2 sc_law_word.nd (dx (dadd (dv 2) (dfrz (dlst (acons (disx (m_isinstance T) (gl_NoLogs T) (by decide +kernel) (dv 0)) (acons (disx (m_isinstance T) (gl_NoTable T) (by decide +kernel) (dv 0)) (acons (disx (m_isinstance T) (gl_NoSights T) (by decide +kernel) (dv 0)) anil)))))))) (scons (sset 2 sc_law_word.nd (dx (dadd (dv 2) (dfrz (dlst (acons (disx (m_isinstance T) (gl_NoSet T) (by decide +kernel) (dv 0)) (acons (disx (m_isinstance T) (gl_NoRoll T) (by decide +kernel) (dv 0)) (acons (disx (m_isinstance T) (gl_NoName T) (by decide +kernel) (dv 0)) anil)))))))) (scons (sset 1 sc_law_word.nd (dx (dadd (dv 1) (dfrz (dlst (acons ds (acons ds (acons ds (acons ds (acons ds (acons ds (acons ds (acons ds (acons ds (acons ds (acons ds anil)))))))))))))))) (scons (sset 2 sc_law_word.nd (dx (dadd (dv 2) (dfrz (dlst (acons (disx (m_isinstance T) (gl_NoHour T) (by decide +kernel) (dv 0)) (acons (disx (m_isinstance T) (gl_NoScheme T) (by decide +kernel) (dv 0)) (acons (disx (m_isinstance T) (gl_NoCrew T) (by decide +kernel) (dv 0)) anil)))))))) (scons (sset 2 sc_law_word.nd (dx (dadd (dv 2) (dfrz (dlst (acons (disx (m_isinstance T) (gl_NoMan T) (by decide +kernel) (dv 0)) (acons (disx (m_isinstance T) (gl_NoSale T) (by decide +kernel) (dv 0)) (acons (disx (m_isinstance T) (gl_NoCrews T) (by decide +kernel) (dv 0)) anil)))))))) (scons (sset 2 sc_law_word.nd (dx (dadd (dv 2) (dfrz (dlst (acons (disx (m_isinstance T) (gl_NoPage T) (by decide +kernel) (dv 0)) (acons (disx (m_isinstance T) (gl_NoPages T) (by decide +kernel) (dv 0)) (acons (disx (m_isinstance T) (gl_NoPrize T) (by decide +kernel) (dv 0)) anil)))))))) (scons (sset 2 sc_law_word.nd (dx (dadd (dv 2) (dfrz (dlst (acons (disx (m_isinstance T) (gl_NoBalances T) (by decide +kernel) (dv 0)) (acons (disx (m_isinstance T) (gl_NoMoney T) (by decide +kernel) (dv 0)) anil))))))) (scons (sset 1 sc_law_word.nd (dx (dadd (dv 1) (dfrz (dlst (acons ds (acons ds (acons ds (acons ds (acons ds anil)))))))))) (scons (sset 2 sc_law_word.nd (dx (dadd (dv 2) (dfrz (dlst (acons (disx (m_isinstance T) (gl_NoChange T) (by decide +kernel) (dv 0)) (acons (disx (m_isinstance T) (gl_TooMany T) (by decide +kernel) (dv 0)) (acons (disx (m_isinstance T) (gl_NoText T) (by decide +kernel) (dv 0)) anil)))))))) (scons (sset 2 sc_law_word.nd (dx (dadd (dv 2) (dfrz (dlst (acons (disx (m_isinstance T) (gl_NoRow T) (by decide +kernel) (dv 0)) (acons (dnotV (disv (m_isinstance T) (m_ValueError T) (dv 0))) anil))))))) (ssforget [0] (sone (sret (m := 0) (dx (djoin (dfrz (dlcH (dec := de_law_word_1) (emb := em_law_word_1) (qb := qb_law_word_1) [("_law_name", 3), ("_law_here", 4)] (.tup [3, 4]) hot hde_law_word_1 sc_law_word.nd (fun hZ => izipH hZ (m_zip T) (acons (dv 1) (acons (dv 2) anil))) (blkOk_by (own := [("_law_name", 3), ("_law_here", 4)]) (N := N_law_word) (sc := defScope (top 57)) (by decide +kernel)) (fun _ _ _ _ _ _ _ hh => pg_tupH hh (pgs_cons (pg_name (i := 3) sc_law_word.nd rfl (Or.inl rfl)) (pgs_cons (pg_name (i := 4) sc_law_word.nd rfl (Or.inl rfl)) pgs_nil))) (fun _ _ _ _ _ => tif1 (dtest (dv 4))) (fun _ _ _ _ _ => (dv 3)) (fun d i s sk yd h => Eq.mp (by kernel_rfl) h))))))))))))))))))))), fun as Q h => ?_⟩
  unfold S_law_word at h
  split at h
  · unfold q_law_word at h
    rename_i x0
    refine at_env (b := [.dat x0, .un, .un, .un, .un]) rfl ?_
    exact Eq.mp (by kernel_rfl) h
  · exact h.elim
theorem ok_law_word (T : Tp K mg)  : DnC P w K mg base Tb "_law_word" 1 ["_law_caught"] S_law_word := by
  obtain ⟨kV, doc, pm, an, cdv, ct, Fn⟩ := T.fun_ "_law_word" (top 57) 20 88
  exact ⟨⟨_, fg_law_word T  Fn, Fn.binds (ps := ["_law_caught"]) fun _ _ _ _ _ _ us hl => match us, hl with | [_], _ => rfl⟩, T.glo "_law_word" 37, T.keep "_law_word" 88⟩
def kk_law_asked : RT → (PyData → Prop) := fun R v => R (.dat v) []
def S_law_asked : DSp := fun as Q => match as with
  | [.dat x0, .dat x1, .dat x2] => q_law_asked x0 x1 x2 (kk_law_asked Q)
  | _ => False
theorem len_law_asked (as : List SD) (Q : SD → List SD → Prop) (h : S_law_asked as Q) : as.length = 3 := by
  unfold S_law_asked at h
  split at h
  · rfl
  · exact h.elim
theorem cels_law_asked : CelsIn 0 S_law_asked := by
  intro as Q h i p xs e
  unfold S_law_asked at h
  split at h
  · exact absurd e (no_cel (ds := [_, _, _]) i p xs)
  · exact h.elim
def N_law_asked : List Str := ["_law_way", "_law_thing", "_law_n", "e"]
theorem sc_law_asked : FnScope N_law_asked ["_law_way", "_law_thing", "_law_n"] (defScope (top 58)) := ⟨rfl, rfl, rfl, by decide +kernel, rfl, by decide +kernel, by decide +kernel⟩
theorem fg_law_asked (T : Tp K mg) (D_law_word : DnC P w K mg base Tb "_law_word" 1 ["_law_caught"] S_law_word) (D_least_gross : DnX P w K mg base Tb "least_gross" 7 ["sale", "n"] S_least_gross) (D_purse_of : DnX P w K mg base Tb "purse_of" 7 ["sale"] S_purse_of) {fd : FuncData} (Fn : Fun K "_law_asked" "_law_asked" (top 58) (He.ga K "_law_asked") fd) : FnG P w K mg base Tb 8 (He.ga K "_law_asked") fd ["_law_way", "_law_thing", "_law_n"] S_law_asked := by
  refine dfn 0 Fn sc_law_asked len_law_asked cels_law_asked fun cdv A outer s H hr hA => ⟨_, (scons (stryH 3 (gl_PrizeError T) sc_law_asked.nd (fun Ed pn xe tk1 po1 => (sone (sif (dcmpT (op_eqE hr.units) opd_eq (dv 0) di (nomark _)) (sone (sexpr (dcnE D_purse_of (hr.mono (by decide)) hA tk1 (acons (dv 1) anil)))) (sone (sexpr (dcnE D_least_gross (hr.mono (by decide)) hA tk1 (acons (dv 1) (acons (dv 2) anil)))))))) (fun F2 P2 a pn hot => (sone (sret (m := 0) (dx (dfrz (dcnH hot D_law_word (hr.mark.mono (by decide)) hA (acons (dv 3) anil)))))))) (sone (sret (m := 0) (dx ds)))), fun as Q h => ?_⟩
  unfold S_law_asked at h
  split at h
  · unfold q_law_asked at h
    rename_i x0 x1 x2
    refine at_env (b := [.dat x0, .dat x1, .dat x2, .un]) rfl ?_
    exact Eq.mp (by kernel_rfl) h
  · exact h.elim
theorem ok_law_asked (T : Tp K mg) (D_law_word : DnC P w K mg base Tb "_law_word" 1 ["_law_caught"] S_law_word) (D_least_gross : DnX P w K mg base Tb "least_gross" 7 ["sale", "n"] S_least_gross) (D_purse_of : DnX P w K mg base Tb "purse_of" 7 ["sale"] S_purse_of) : Dn P w K mg base Tb "_law_asked" 8 ["_law_way", "_law_thing", "_law_n"] S_law_asked := by
  obtain ⟨kV, doc, pm, an, cdv, ct, Fn⟩ := T.fun_ "_law_asked" (top 58) 21 89
  exact ⟨⟨_, fg_law_asked T D_law_word D_least_gross D_purse_of Fn, Fn.binds (ps := ["_law_way", "_law_thing", "_law_n"]) fun _ _ _ _ _ _ us hl => match us, hl with | [_, _, _], _ => rfl⟩, T.glo "_law_asked" 38, T.keep "_law_asked" 89⟩
def kk_law : RT → (PyData → Prop) := fun R v => R (.dat v) []
def em_law_1 (i : PyData) (s : Unit) : List SD := [.dat i, .un, .un, .un, .un, .un, .un, .un, .un, .un, .un, .un]
def de_law_1 : List SD → Option ((PyData) × (Unit))
  | [.dat x0, .un, .un, .un, .un, .un, .un, .un, .un, .un, .un, .un] => some (x0, ())
  | _ => none
theorem hde_law_1 : ∀ env i s, de_law_1 env = some (i, s) → env = em_law_1 i s := by
  intro env i s h
  unfold de_law_1 at h
  split at h
  · cases h; rfl
  · cases h
def em_law_2 (i : PyData × PyData) (s : List PyData) : List SD := [.dat i.1, .un, .cel false s, .dat i.2, .un, .un, .un, .un, .un, .un, .un, .un]
def de_law_2 : List SD → Option ((PyData × PyData) × (List PyData))
  | [.dat x0, .un, .cel false x2, .dat x3, .un, .un, .un, .un, .un, .un, .un, .un] => some ((x0, x3), x2)
  | _ => none
theorem hde_law_2 : ∀ env i s, de_law_2 env = some (i, s) → env = em_law_2 i s := by
  intro env i s h
  unfold de_law_2 at h
  split at h
  · cases h; rfl
  · cases h
def S_law : DSp := fun as Q => match as with
  | [.dat x0] => q_law x0 (kk_law Q)
  | _ => False
theorem len_law (as : List SD) (Q : SD → List SD → Prop) (h : S_law as Q) : as.length = 1 := by
  unfold S_law at h
  split at h
  · rfl
  · exact h.elim
theorem cels_law : CelsIn 0 S_law := by
  intro as Q h i p xs e
  unfold S_law at h
  split at h
  · exact absurd e (no_cel (ds := [_]) i p xs)
  · exact h.elim
def N_law : List Str := ["_law_script", "_law_k", "_law_pot_here", "_law_sale_here", "_law_turn", "_law_thing", "_law_at", "_law_odd_here", "_law_due", "_law_n", "_law_found", "_law_good"]
theorem sc_law : FnScope N_law ["_law_script"] (defScope (top 59)) := ⟨rfl, rfl, rfl, by decide +kernel, rfl, by decide +kernel, by decide +kernel⟩
theorem fg_law (T : Tp K mg) (D_law_asked : Dn P w K mg base Tb "_law_asked" 8 ["_law_way", "_law_thing", "_law_n"] S_law_asked) (D_law_is_sale : Dn P w K mg base Tb "_law_is_sale" 2 ["_law_thing"] S_law_is_sale) (D_law_odd : Dn P w K mg base Tb "_law_odd" 2 ["_law_pot_here", "_law_sale_here"] S_law_odd) (D_law_pot : Dn P w K mg base Tb "_law_pot" 1 ["_law_script", "_law_k"] S_law_pot) (D_law_sale : Dn P w K mg base Tb "_law_sale" 3 ["_law_pot_here"] S_law_sale) (D_law_take : Dn P w K mg base Tb "_law_take" 1 ["_law_pot_here", "_law_many"] S_law_take) (D_is_sale : Dn P w K mg base Tb "is_sale" 5 ["thing"] S_is_sale) {fd : FuncData} (Fn : Fun K "law" "law" (top 59) (He.ga K "law") fd) : FnG P w K mg base Tb 9 (He.ga K "law") fd ["_law_script"] S_law := by
  refine dfn 0 Fn sc_law len_law cels_law fun cdv A outer s H hr hA => ⟨_, (scons (sforQ [1, 2, 3, 4, 5, 6, 7, 8, 9, 10, 11] de_law_1 em_law_1 kk_law qb_law_1 hde_law_1 PassesOwn.never rfl (irange1 (m_range T) (acons (dadd (dmin2 (m_min T) rfl (acons (dlen (m_len T) (acons (dv 0) anil)) (acons di anil))) di) anil)) (gn 1 sc_law.nd) (scons (sset 2 sc_law.nd (dcn D_law_pot (hr.mono (by decide)) hA (acons (dv 0) (acons (dv 1) anil)))) (scons (sset 3 sc_law.nd (dcnC 2 D_law_sale (hr.mono (by decide)) hA anil)) (ssforget [1] (scons (sif (tnotB (dfrz (dcn D_is_sale (hr.mono (by decide)) hA (acons (dv 3) anil)))) (sone (sret (m := 0) (dx db))) snil) (sone (sforQ [4, 5, 6, 7, 8, 9, 10, 11] de_law_2 em_law_2 kk_law qb_law_2 hde_law_2 PassesOwn.never rfl (irange1 (m_range T) (acons di anil)) (gn 4 sc_law.nd) (scons (sset 5 sc_law.nd (dcnC 2 D_law_odd (hr.mono (by decide)) hA (acons (dv 3) anil))) (scons (sif (tand (dcmpT (op_eqE hr.units) opd_eq (dmod (dv 4) di) di (nomark _)) (tand (dtest (disi "tuple" "tuple" (m_isinstance T) (m_tuple T) (by decide +kernel) (by decide +kernel) (dv 5))) (tand1 (dcmpT (op_eqE hr.units) opd_eq (dlen (m_len T) (acons (dv 5) anil)) di (nomark _))))).pt (scons (sset 6 sc_law.nd (dcnC 2 D_law_take (hr.mono (by decide)) hA (acons di anil))) (scons (sset 7 sc_law.nd (dx (dixP (dfrz (dlst (acons (dneg di) (acons dn (acons db (acons (dadd (dpow di di) di) (acons ds (acons di anil)))))))) (dfrz (dcnC 2 D_law_take (hr.mono (by decide)) hA (acons di anil)))))) (sone (sset 5 sc_law.nd (dx (dadd (dadd (dsl (dv 5) so_none (so_some (dv 6))) (dtup (acons (dv 7) anil))) (dsl (dv 5) (so_some (dadd (dv 6) di)) so_none))))))) snil) (ssforget [6, 7] (scons (sset 8 sc_law.nd (dcn D_law_is_sale (hr.mono (by decide)) hA (acons (dv 5) anil))) (scons (sset 9 sc_law.nd (dx (dixP (dfrz (dlst (acons di (acons (dneg di) (acons dn (acons db (acons ds (acons (dtup (acons di anil)) (acons (dpow di di) anil))))))))) (dfrz (dcnC 2 D_law_take (hr.mono (by decide)) hA (acons di anil)))))) (scons (sset 10 sc_law.nd (dcn D_is_sale (hr.mono (by decide)) hA (acons (dv 5) anil))) (ssforget [4] (scons (sif (tor (tnot (dtest (disi "bool" "bool" (m_isinstance T) (m_bool T) (by decide +kernel) (by decide +kernel) (dv 10)))) (tor1 (dcmpT (op_neE hr.units) opd_ne (dv 10) (dv 8) (nomark _)))).pt (sone (sret (m := 0) (dx db))) snil) (ssforget [10] (scons (sif (dcmpT (op_neE hr.units) opd_ne (dfrz (dcn D_law_asked (hr.mono (by decide)) hA (acons di (acons (dv 5) (acons di anil))))) (dixP (dfrz (dlst (acons ds (acons ds anil)))) (dintOf (m_int T) (acons (dv 8) anil))) (nomark _)) (sone (sret (m := 0) (dx db))) snil) (scons (sset 11 sc_law.nd (dx (dandV (disi "int" "int" (m_isinstance T) (m_int T) (by decide +kernel) (by decide +kernel) (dv 9)) (dandV (dnotV (disi "bool" "bool" (m_isinstance T) (m_bool T) (by decide +kernel) (by decide +kernel) (dv 9))) (done (dcmp op_ge opr_ge (dv 9) di (nomark _))))))) (sone (sif (dcmpT (op_neE hr.units) opd_ne (dfrz (dcn D_law_asked (hr.mono (by decide)) hA (acons di (acons (dv 5) (acons (dv 9) anil))))) (dixP (dfrz (dlst (acons ds (acons (dixP (dfrz (dlst (acons ds (acons ds anil)))) (dintOf (m_int T) (acons (dv 11) anil))) anil)))) (dintOf (m_int T) (acons (dv 8) anil))) (nomark _)) (sone (sret (m := 0) (dx db))) snil))))))))))))) (fun R d i s nx bk h => Eq.mp (by kernel_rfl) h))))))) (fun R d i s nx bk h => Eq.mp (by kernel_rfl) h)) (sone (sret (m := 0) (dx db)))), fun as Q h => ?_⟩
  unfold S_law at h
  split at h
  · unfold q_law at h
    rename_i x0
    refine at_env (b := [.dat x0, .un, .un, .un, .un, .un, .un, .un, .un, .un, .un, .un]) rfl ?_
    exact Eq.mp (by kernel_rfl) h
  · exact h.elim
theorem ok_law (T : Tp K mg) (D_law_asked : Dn P w K mg base Tb "_law_asked" 8 ["_law_way", "_law_thing", "_law_n"] S_law_asked) (D_law_is_sale : Dn P w K mg base Tb "_law_is_sale" 2 ["_law_thing"] S_law_is_sale) (D_law_odd : Dn P w K mg base Tb "_law_odd" 2 ["_law_pot_here", "_law_sale_here"] S_law_odd) (D_law_pot : Dn P w K mg base Tb "_law_pot" 1 ["_law_script", "_law_k"] S_law_pot) (D_law_sale : Dn P w K mg base Tb "_law_sale" 3 ["_law_pot_here"] S_law_sale) (D_law_take : Dn P w K mg base Tb "_law_take" 1 ["_law_pot_here", "_law_many"] S_law_take) (D_is_sale : Dn P w K mg base Tb "is_sale" 5 ["thing"] S_is_sale) : Dn P w K mg base Tb "law" 9 ["_law_script"] S_law := by
  obtain ⟨kV, doc, pm, an, cdv, ct, Fn⟩ := T.fun_ "law" (top 59) 22 90
  exact ⟨⟨_, fg_law T D_law_asked D_law_is_sale D_law_odd D_law_pot D_law_sale D_law_take D_is_sale Fn, Fn.binds (ps := ["_law_script"]) fun _ _ _ _ _ _ us hl => match us, hl with | [_], _ => rfl⟩, T.glo "law" 39, T.keep "law" 90⟩
theorem law_imp (as : List SD) (Q : SD → List SD → Prop) (h : lawS 63 as Q) : S_law as Q := by
  unfold lawS at h
  split at h
  · obtain ⟨⟨ns, rfl, hn⟩, h⟩ := h
    exact the_law ns hn _ (h [])
  · exact h.elim

end
theorem facts {P : Program} {w : World} {K : PySem.W.Frag} {h : Heap} {mg : Str → Option Value} {f : Addr} (X : K.In h) (G : h.Ns mainGlobals mg) (hfa : mg ("law" : Str) = some (.ref f)) (c : He.SaysE fa fn K) (cx : FxSays fx K) :
    ∃ fd : FuncData, (∀ (s : Shared) (v : Value), BindsTo s fd ⟨[v], []⟩ [("_law_script", v)]) ∧ ∀ base : Heap, K.In base → base.Ns mainGlobals mg → SysD base → FnG P w K mg base [] 9 f fd ["_law_script"] (lawS 63) := by
  have T : Tp K mg := ⟨⟨c, h, X, G⟩, cx⟩
  have e := hfa.symm.trans (T.glo "law" 39)
  cases e
  obtain ⟨kV, doc, pm, an, cdv, ct, Fn⟩ := T.fun_ "law" (top 59) 22 90
  refine ⟨PySem.W.fnOf "law" "law" (defArgs (top 59)) (defBody (top 59)) (defScope (top 59)) .none kV doc pm an cdv ct, fun s v => .of_eq rfl, fun base _ _ BD => ?_⟩
  haveI : SysB base := ⟨BD⟩
  have D_is_whole : Dn P w K mg base [] "is_whole" 1 ["thing"] S_is_whole := ok_is_whole T 
  have D_is_within : Dn P w K mg base [] "is_within" 2 ["thing", "least", "most"] S_is_within := ok_is_within T D_is_whole
  have D_is_from : Dn P w K mg base [] "is_from" 2 ["thing", "least"] S_is_from := ok_is_from T D_is_whole
  have D_are_wholes : Dn P w K mg base [] "are_wholes" 2 ["thing", "many"] S_are_wholes := ok_are_wholes T D_is_whole
  have D_divisor_of : Dn P w K mg base [] "divisor_of" 1 ["one", "other"] S_divisor_of := ok_divisor_of T 
  have D_is_fraction : Dn P w K mg base [] "is_fraction" 3 ["thing"] S_is_fraction := ok_is_fraction T D_are_wholes D_divisor_of
  have D_need_number : DnX P w K mg base [] "need_number" 3 ["thing"] S_need_number := ok_need_number T D_is_from
  have D_is_part : Dn P w K mg base [] "is_part" 4 ["thing"] S_is_part := ok_is_part T D_is_fraction
  have D_is_sale : Dn P w K mg base [] "is_sale" 5 ["thing"] S_is_sale := ok_is_sale T D_is_part D_is_within
  have D_need_sale : DnX P w K mg base [] "need_sale" 6 ["thing"] S_need_sale := ok_need_sale T D_is_sale
  have D_purse_of : DnX P w K mg base [] "purse_of" 7 ["sale"] S_purse_of := ok_purse_of T D_need_sale
  have D_least_pot : Dn P w K mg base [] "least_pot" 1 ["rate", "n"] S_least_pot := ok_least_pot T 
  have D_least_gross : DnX P w K mg base [] "least_gross" 7 ["sale", "n"] S_least_gross := ok_least_gross T D_least_pot D_need_number D_need_sale
  have D_law_pot : Dn P w K mg base [] "_law_pot" 1 ["_law_script", "_law_k"] S_law_pot := ok_law_pot T 
  have D_law_take : Dn P w K mg base [] "_law_take" 1 ["_law_pot_here", "_law_many"] S_law_take := ok_law_take T 
  have D_law_fraction : Dn P w K mg base [] "_law_fraction" 1 ["_law_p", "_law_q"] S_law_fraction := ok_law_fraction T 
  have D_law_number : Dn P w K mg base [] "_law_number" 2 ["_law_pot_here", "_law_most"] S_law_number := ok_law_number T D_law_take
  have D_law_sale : Dn P w K mg base [] "_law_sale" 3 ["_law_pot_here"] S_law_sale := ok_law_sale T D_law_fraction D_law_number D_law_take
  have D_law_odd : Dn P w K mg base [] "_law_odd" 2 ["_law_pot_here", "_law_sale_here"] S_law_odd := ok_law_odd T D_law_take
  have D_law_is_sale : Dn P w K mg base [] "_law_is_sale" 2 ["_law_thing"] S_law_is_sale := ok_law_is_sale T D_law_fraction
  have D_law_word : DnC P w K mg base [] "_law_word" 1 ["_law_caught"] S_law_word := ok_law_word T 
  have D_law_asked : Dn P w K mg base [] "_law_asked" 8 ["_law_way", "_law_thing", "_law_n"] S_law_asked := ok_law_asked T D_law_word D_least_gross D_purse_of
  exact (fg_law T D_law_asked D_law_is_sale D_law_odd D_law_pot D_law_sale D_law_take D_is_sale Fn).imp law_imp
end K45
open PySem PySem.W PySem.Calls PyProof.Rows
set_option maxHeartbeats 0 in
theorem PySem.Challenge.cw_prizelog_k45_sales_judged_holds : PySem.Challenge.rw_prizelog_k45_sales_judged.Holds := by
  w_on; o_law
  refine HandSHeadRun.head_any (r := K45.R) (q := view K45.R.prog [59]) (H := K45.hk) (ob := K45.ob) (M := 20000) (loose := K45.loose) (d := HandSHeadRun.topDef K45.R.prog 59) (kwd := []) K45.ob_eq
    (by kernel_rfl) (fun s => by kernel_rfl) K45.run (by kernel_rfl) (by kernel_rfl) (by kernel_rfl) (by rfl) (by first | assumption | decide +kernel) (by decide +kernel) ⟨rfl, rfl, rfl, rfl, rfl, by decide +kernel⟩ ?hw ?hc
  case hw => w_witness2
  case hc =>
    refine DL.walk_dataE (l := PySem.Challenge.rw_prizelog_k45_sales_judged) (n := 63) (k := 9) (x := "_law_script") rfl (by decide) (by kernel_rfl) ⟨rfl, by decide, by decide⟩ ?F
    intro w mg fa h Y G hmg0
    obtain ⟨⟨K, KX, c, cx⟩, hsys⟩ := Y
    have hmg : mg ("law" : PySem.Str) = some (.ref fa) := by
      have e : (HandSHeadRun.topDef K45.R.prog 59).name = ("law" : PySem.Str) := by kernel_rfl
      rw [← e]
      exact hmg0
    obtain ⟨fd, hb, hF⟩ := K45.facts (P := (PySem.Challenge.rw_prizelog_k45_sales_judged).prog) (w := w) KX G hmg c cx
    exact ⟨K, fd, KX, hsys, hb, hF⟩
