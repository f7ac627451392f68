import PyProof.Rows.All
import Wide.All
import OpenK.AllK
import Wide.FinOn
import HandS.Words
import HandS.Head0
import HandS.Head1
import HandS.Head2
import HandS.HeadHook1
import HandS.TupAny
import HandS.TupMul
import HandS.Conv
import HandS.Iter
import HandS.Deep
import HandS.ForMost
import HandS.Exc
import HandS.ExcOwn
import HandS.TryOnly
import HandS.WordsExc
import HandS.Wide
import HandS.IsInst
import HandS.Walk
import HandS.Zip
import HandS.Evl
import HandS.ExcIs
import HandS.Lambda
import HandS.HeadEnd
import PyProof.ReprBulk
import KE.KTupSum
import HandS.Style
import HandS.Dict
import KE.GoesEnum
import HandS.Flt
import KE.DatumOrd
import PyProof.P3In
import HandS.SetFor
import HandS.Strs
import HandS.ExcCtx
import HandS.HotCalls
import HandS.More
import KE.SortData
import KE.DataAny
import KE.KDictSum
import KE.GoesComp
import HandS.TupSets
import KE.SortKeyHeap
import HandS.SortKw
import HandS.EndTab
import HandS.WordsDict
import KE.KDictPairs
import KE.KEqDict
import KE.KDictCopyH
import HandS.ListItems
import HandS.Hot
import HandS.Text
import KE.KIsAll
import PySem.Challenge.RW_prizelog_k07_turns_refused
set_option Elab.async false
set_option linter.all false
set_option maxRecDepth 100000
set_option maxHeartbeats 4000000
/-! The data layer, part A: what the head's run looks at (it stands ahead of all else in a hand-in). -/
namespace DL
open PySem PySem.Spec PyProof.Rows L2
/-- the classes of refusals -/
def exNames : List Str := "PrizeError" :: "NoWeights" :: "NoPart" :: "NoNumber" :: "NoLog" :: "NoChase" :: "NoMiles" :: "NoLogs" :: "NoTable" :: "NoSights" :: "NoSet" :: "NoRoll" :: "NoName" :: "NoHour" :: "NoScheme" :: "NoCrew" :: "NoMan" :: "NoSale" :: "NoCrews" :: "NoPages" :: "NoPage" :: "NoPrize" :: "NoBalances" :: "NoMoney" :: "NoChange" :: "TooMany" :: "NoText" :: "NoRow" :: []
def exBases : List Value := [.type "ValueError", .type "Exception", .type "BaseException", .type "object"]
def exTypes : List String := ["int", "bool", "str", "tuple", "dict"]
/-- whether the one is the other or of it -/
def exSub (c d : Str) : Bool := decide (c = d) || decide (d = "PrizeError")
/-- what a class of refusals must say -/
def xcB (K : PySem.W.Frag) (c : Str) : Bool :=
  decide (PySem.W.findIn K (.ref (He.ga K c)) "__getattribute__" = some (some (.builtin "BaseException.__getattribute__"))) &&
  (decide (PySem.W.findIn K (.ref (He.ga K c)) "__getattr__" = some none) &&
  (decide (PySem.W.subIn K (.ref (He.ga K c)) (.type "BaseException") = some true) &&
  (PySem.W.hasDictIn K (He.ga K c) &&
  (decide (PySem.W.findIn K (.ref (He.ga K c)) "__class__" = some (some (.builtin "object.__class__"))) &&
  (decide (PySem.W.specialIn K (.builtin "object.__class__") "__get__" = some (some (.builtin "getset_descriptor.__get__"))) &&
  (decide (PySem.W.takesIn K (.builtin "object.__class__") = some true) &&
  (decide (PySem.W.mroIn K (He.ga K c) (.type "object") = some true) &&
  (PySem.W.excIn K (He.ga K c) exBases "ValueError.__new__" &&
  (PySem.W.keepIn K (.ref (He.ga K c)) &&
  (decide (PySem.W.typeIn K (.ref (He.ga K c)) = some (.type "type")) &&
  (decide (PySem.W.exmOne K (.ref (He.ga K c)) (.ref (He.ga K "PrizeError")) = some true) &&
  (decide (PySem.W.kitOne K (.ref (He.ga K c)) (.type "ValueError") = some true) &&
  (exTypes.all (fun T => decide (PySem.W.kitOne K (.ref (He.ga K c)) (.type T) = some false)) &&
  (exNames.all (fun d => decide (PySem.W.kitOne K (.ref (He.ga K c)) (.ref (He.ga K d)) = some (exSub c d))) &&
  exNames.all (fun d => decide (PySem.W.exmOne K (.ref (He.ga K c)) (.ref (He.ga K d)) = some (exSub c d)))))))))))))))))
/-- the head's facts, and that the modules' dict stands -/
def sysB (g : Addr → Option Obj) : Bool := match g sysModules with
  | some ⟨_, _, .dict _ _, _⟩ => true
  | _ => false
/-- an empty table of code objects -/
def isTab : Option Obj → Bool
  | some ⟨.none, none, .fields vs, sl⟩ => vs.isEmpty && sl.isEmpty
  | _ => false
def uniT (l : List (Addr × Str)) : Bool := l.all fun p => l.all fun q => decide (p.1 = q.1 → p.2 = q.2)
inductive Fx where
  | tup (x : Str) (ns : List Int)
  | exc (c : Str)
  | txt (x z : Str)
  /-- a def, taken as a datum -/
  | fnc (x : Str)
def intsB : List Value → List Int → Bool
  | [], [] => true
  | .int i _ :: r, n :: ns => decide (i = n) && intsB r ns
  | _, _ => false
def tupB (K : PySem.W.Frag) (a : Addr) (ns : List Int) : Bool := match K.lookup a with
  | some ⟨c, none, .seq its _, _⟩ => decide (c = .type "tuple") && (decide (its.size ≤ 1000) && intsB its.toList ns)
  | _ => false
/-- the object at a is a function -/
def fncO : Option Obj → Bool
  | some ⟨c, _, .func _, _⟩ => decide (c = .type "function")
  | _ => false
def Fx.ok (K : PySem.W.Frag) : Fx → Bool
  | .tup x ns => He.eqO (PySem.W.nsIn K mainGlobals x) (some (some (.ref (He.ga K x)))) && tupB K (He.ga K x) ns
  | .exc c => He.eqO (PySem.W.nsIn K mainGlobals c) (some (some (.ref (He.ga K c)))) && xcB K c
  | .txt x z => (He.Fa.str x z).ok K
  | .fnc x => He.eqO (PySem.W.nsIn K mainGlobals x) (some (some (.ref (He.ga K x)))) && fncO (K.lookup (He.ga K x))
theorem frG_look {g : Addr → Option Obj} {a : Addr} : ∀ as : List Addr, (He.frG g as).lookup a = if a ∈ as then g a else none
  | [] => rfl
  | b :: r => by
    have ih := frG_look (g := g) (a := a) r
    cases hb : g b with
    | none =>
      have e : He.frG g (b :: r) = He.frG g r := by
        unfold He.frG
        rw [List.filterMap_cons, hb]
        rfl
      rw [e, ih]
      by_cases z : a = b
      · subst z
        by_cases m : a ∈ r <;> simp [m, hb]
      · simp [z]
    | some o =>
      have e : He.frG g (b :: r) = (b, o) :: He.frG g r := by
        unfold He.frG
        rw [List.filterMap_cons, hb]
        rfl
      rw [e]
      by_cases z : a = b
      · subst z
        simp [hb]
      · have q : (a == b) = false := by simpa using z
        show (match a == b with | true => some o | false => (He.frG g r).lookup a) = _
        rw [q]
        show (He.frG g r).lookup a = _
        rw [ih]
        simp [z]
/-- the object at an address below n, tables of code left out -/
def kG (g : Addr → Option Obj) (n : Nat) (a : Addr) : Option Obj := match Nat.blt a n with
  | true => (match g a with
    | some o => (match isTab (some o) with
      | true => none
      | false => some o)
    | none => none)
  | false => none
def hotOk (g : Addr → Option Obj) (n : Nat) (hot : List Addr) : Bool := hot.all fun a => Nat.blt a n && !isTab (g a)
/-- all objects below n but tables of code, those of hot first -/
def kAll (g : Addr → Option Obj) (n : Nat) (hot : List Addr) : PySem.W.Frag := He.frG g (hot ++ (List.range n).filter fun a => !isTab (g a))
theorem kAll_look {g : Addr → Option Obj} {n : Nat} {hot : List Addr} (h : hotOk g n hot = true) (a : Addr) : (kAll g n hot).lookup a = kG g n a := by
  have hm : (a ∈ hot ++ (List.range n).filter fun a => !isTab (g a)) ↔ (a < n ∧ isTab (g a) = false) := by
    rw [List.mem_append, List.mem_filter, List.mem_range]
    constructor
    · rintro (m | ⟨h1, h2⟩)
      · obtain ⟨z1, z2⟩ := He.ba (List.all_eq_true.mp h a m)
        exact ⟨Nat.le_of_ble_eq_true z1, by simpa using z2⟩
      · exact ⟨h1, by simpa using h2⟩
    · rintro ⟨h1, h2⟩
      exact .inr ⟨h1, by simp [h2]⟩
  unfold kAll
  rw [frG_look]
  unfold kG
  by_cases lt : a < n
  · rw [show Nat.blt a n = true from Nat.ble_eq_true_of_le lt]
    cases q : g a with
    | none => simp
    | some o =>
      cases t : isTab (some o) with
      | true =>
        rw [if_neg fun m => by
          have := (hm.mp m).2
          rw [q, t] at this
          cases this]
        simp [t]
      | false => rw [if_pos (hm.mpr ⟨lt, by rw [q, t]⟩)]; simp [t]
  · rw [show Nat.blt a n = false from by
      cases z : Nat.blt a n with
      | false => rfl
      | true => exact absurd (Nat.le_of_ble_eq_true z) lt]
    rw [if_neg fun m => lt (hm.mp m).1]
/-! ### names by numbers -/
def codeS (x : Str) : Nat := x.cps.toList.foldl (fun a c => a * 1114112 + c) 7
def codeV : Value → Nat
  | .str x _ => codeS x
  | _ => 0
def nsE (o : Option Obj) (x : Str) : Option (Option Value) := match o with
  | some ⟨_, _, .dict es _, _⟩ => (match es.toList.find? (fun e => match Nat.beq (codeV e.key) (codeS x) with
      | true => e.key.isStr x
      | false => false) with
    | some e => some (some e.val)
    | none => if es.toList.any (·.refKey) then none else some none)
  | _ => none
theorem isStr_code (x : Str) (e : DictEntry) : (match Nat.beq (codeV e.key) (codeS x) with
      | true => e.key.isStr x
      | false => false) = e.key.isStr x := by
  cases q : Nat.beq (codeV e.key) (codeS x) with
  | true => rfl
  | false =>
    cases z : e.key.isStr x with
    | false => rfl
    | true =>
      exfalso
      cases k : e.key with
      | str y t =>
        rw [k] at z q
        have e1 : (y == x) = true := z
        have e2 : y = x := by simpa using e1
        rw [e2] at q
        have q2 : Nat.beq (codeS x) (codeS x) = false := q
        rw [Nat.beq_refl] at q2
        cases q2
      | _ => rw [k] at z; cases z
theorem nsE_eq (K : PySem.W.Frag) (ns : Addr) (x : Str) : PySem.W.nsIn K ns x = nsE (K.lookup ns) x := by
  unfold PySem.W.nsIn nsE
  have e : (fun e : DictEntry => match Nat.beq (codeV e.key) (codeS x) with
      | true => e.key.isStr x
      | false => false) = fun e => e.key.isStr x := funext fun e => isStr_code x e
  rw [e]
  rfl
def gaF (o : Option Obj) (x : Str) : Addr := match nsE o x with
  | some (some (.ref a)) => a
  | _ => 0
def isRf (o : Option Obj) (x : Str) : Bool := match nsE o x with
  | some (some (.ref _)) => true
  | _ => false
section
variable {K : PySem.W.Frag} {g : Addr → Option Obj} {n : Nat} {o : Option Obj}
theorem gaF_eq (ho : K.lookup mainGlobals = o) (x : Str) : He.ga K x = gaF o x := by
  unfold He.ga gaF
  rw [nsE_eq, ho]
  rfl
theorem isRf_ok (ho : K.lookup mainGlobals = o) {x : Str} (h : isRf o x = true) : He.eqO (PySem.W.nsIn K mainGlobals x) (some (some (.ref (He.ga K x)))) = true := by
  unfold isRf at h
  unfold He.eqO He.ga
  rw [nsE_eq, ho]
  cases q : nsE o x with
  | none => rw [q] at h; cases h
  | some v =>
    cases v with
    | none => rw [q] at h; cases h
    | some v =>
      cases v with
      | ref a => simp
      | _ => rw [q] at h; cases h
def faF (K : PySem.W.Frag) (g : Addr → Option Obj) (n : Nat) (o : Option Obj) : He.Fa → Bool
  | .glo x => isRf o x
  | .free x => (match nsE o x with
    | some none => true
    | _ => false)
  | .int x i => (match nsE o x with
    | some (some (.int j _)) => decide (j = i)
    | _ => false)
  | .keep x => (match kG g n (gaF o x) with
    | some ⟨_, _, .func _, _⟩ => true
    | _ => false)
  | f => f.ok K
theorem faF_ok (ho : K.lookup mainGlobals = o) (hk : ∀ a, K.lookup a = kG g n a) {f : He.Fa} (h : faF K g n o f = true) : f.ok K = true := by
  cases f with
  | glo x => exact isRf_ok ho h
  | free x =>
    have h : (match nsE o x with
      | some none => true
      | _ => false) = true := h
    show decide (PySem.W.nsIn K mainGlobals x = some none) = true
    rw [nsE_eq, ho]
    split at h
    · rename_i e
      rw [e]
      simp
    · cases h
  | int x i =>
    have h : (match nsE o x with
      | some (some (.int j _)) => decide (j = i)
      | _ => false) = true := h
    show (match PySem.W.nsIn K mainGlobals x with
      | some (some (.int j _)) => decide (j = i)
      | _ => false) = true
    rw [nsE_eq, ho]
    exact h
  | keep x =>
    have h : (match kG g n (gaF o x) with
      | some ⟨_, _, .func _, _⟩ => true
      | _ => false) = true := h
    show PySem.W.keepIn K (.ref (He.ga K x)) = true
    unfold PySem.W.keepIn
    dsimp only
    rw [hk, gaF_eq ho]
    split at h
    · rename_i e
      rw [e]
    · cases h
  | _ => exact h
/-- a def's address -/
def fAdF (K : PySem.W.Frag) (o : Option Obj) (p : Str × Option Str) : Addr := match p.2 with
  | none => gaF o p.1
  | some m => He.ma K (He.ga K p.1) m
theorem fAdF_eq (ho : K.lookup mainGlobals = o) (p : Str × Option Str) : He.fAd K p = fAdF K o p := by
  unfold He.fAd fAdF
  cases p.2 with
  | none => exact gaF_eq ho _
  | some m => rfl
def codeF (g : Addr → Option Obj) (n : Nat) (q : Str) : Value → Bool
  | .ref c => (match kG g n c with
      | some ⟨_, _, .fields vs, _⟩ => (match vs.toList with | _ :: .str n _ :: _ => n == q | _ => false)
      | _ => false)
  | _ => false
theorem codeF_eq (hk : ∀ a, K.lookup a = kG g n a) (v : Value) (q : Str) : PySem.W.codeIn K v q = codeF g n q v := by
  unfold PySem.W.codeIn codeF
  cases v with
  | ref c => dsimp only; rw [hk]; rfl
  | _ => rfl
def dcF (K : PySem.W.Frag) (g : Addr → Option Obj) (n : Nat) (o : Option Obj) (d : He.FnD) : Bool := match kG g n (fAdF K o d.at_) with
  | some ⟨_, _, .func fd, _⟩ => codeF g n d.qual fd.code
  | _ => false
def dvF (K : PySem.W.Frag) (g : Addr → Option Obj) (n : Nat) (o : Option Obj) (d : He.FnD) : He.FnV := match kG g n (fAdF K o d.at_) with
  | some ⟨_, _, .func fd, _⟩ => some (fd.name, fd.qualname, fd.params, fd.body, fd.scope, fd.globals, fd.closure, fd.defaults, fd.builtins)
  | _ => none
theorem dcF_eq (ho : K.lookup mainGlobals = o) (hk : ∀ a, K.lookup a = kG g n a) (d : He.FnD) : (He.Fa.code d.at_ d.qual).ok K = dcF K g n o d := by
  show (match K.lookup (He.fAd K d.at_) with
    | some ⟨_, _, .func fd, _⟩ => PySem.W.codeIn K fd.code d.qual
    | _ => false) = _
  unfold dcF
  rw [hk, fAdF_eq ho]
  split
  · exact codeF_eq hk _ _
  · rfl
theorem dvF_eq (ho : K.lookup mainGlobals = o) (hk : ∀ a, K.lookup a = kG g n a) (d : He.FnD) : He.fnObs K d.at_ = dvF K g n o d := by
  unfold He.fnObs dvF
  rw [hk, fAdF_eq ho]
  rfl
/-! ### more facts -/
def fxF (K : PySem.W.Frag) (g : Addr → Option Obj) (n : Nat) (o : Option Obj) : Fx → Bool
  | .tup x ns => isRf o x && (match kG g n (gaF o x) with
    | some ⟨c, none, .seq its _, _⟩ => decide (c = .type "tuple") && (decide (its.size ≤ 1000) && intsB its.toList ns)
    | _ => false)
  | .exc c => isRf o c && xcB K c
  | .txt x z => (match nsE o x with
    | some (some (.str y _)) => decide (y = z)
    | _ => false)
  | .fnc x => isRf o x && fncO (kG g n (gaF o x))
theorem fxF_ok (ho : K.lookup mainGlobals = o) (hk : ∀ a, K.lookup a = kG g n a) {f : Fx} (h : fxF K g n o f = true) : f.ok K = true := by
  cases f with
  | tup x ns =>
    obtain ⟨h1, h2⟩ := He.ba h
    unfold Fx.ok
    dsimp only
    rw [isRf_ok ho h1]
    unfold tupB
    rw [hk, gaF_eq ho]
    exact h2
  | exc c =>
    obtain ⟨h1, h2⟩ := He.ba h
    unfold Fx.ok
    dsimp only
    rw [isRf_ok ho h1]
    exact h2
  | txt x z =>
    have h : (match nsE o x with
      | some (some (.str y _)) => decide (y = z)
      | _ => false) = true := h
    show (match PySem.W.nsIn K mainGlobals x with
      | some (some (.str y _)) => decide (y = z)
      | _ => false) = true
    rw [nsE_eq, ho]
    exact h
  | fnc x =>
    obtain ⟨h1, h2⟩ := He.ba h
    unfold Fx.ok
    dsimp only
    rw [isRf_ok ho h1, hk, gaF_eq ho]
    exact h2
/-! ### tables -/
/-- a def's code object and its table -/
def tabX (K : PySem.W.Frag) (p : Str × Option Str) : Option (Addr × Addr) := match K.lookup (He.fAd K p) with
  | some ⟨_, _, .func fd, _⟩ => (match fd.code with
    | .ref c => (match K.lookup c with
      | some ⟨_, _, .fields vs, _⟩ => (match (vs[11]? : Option Value) with
        | some (.ref P) => some (c, P)
        | _ => none)
      | _ => none)
    | _ => none)
  | _ => none
def tabFX (K : PySem.W.Frag) (g : Addr → Option Obj) (n : Nat) (o : Option Obj) (p : Str × Option Str) : Option (Addr × Addr) := match kG g n (fAdF K o p) with
  | some ⟨_, _, .func fd, _⟩ => (match fd.code with
    | .ref c => (match kG g n c with
      | some ⟨_, _, .fields vs, _⟩ => (match (vs[11]? : Option Value) with
        | some (.ref P) => some (c, P)
        | _ => none)
      | _ => none)
    | _ => none)
  | _ => none
theorem tabFX_eq (ho : K.lookup mainGlobals = o) (hk : ∀ a, K.lookup a = kG g n a) (p : Str × Option Str) : tabX K p = tabFX K g n o p := by
  unfold tabX tabFX
  rw [hk, fAdF_eq ho]
  cases kG g n (fAdF K o p) with
  | none => rfl
  | some ob =>
    obtain ⟨c, d, dt, sl⟩ := ob
    cases dt with
    | func fd =>
      dsimp only
      cases fd.code with
      | ref c =>
        dsimp only
        rw [hk]
      | _ => rfl
    | _ => rfl
def codeHdF (g : Addr → Option Obj) (n : Nat) (c P : Addr) : Bool := match kG g n c with
  | some ⟨.type "code", _, .fields vs, _⟩ => (match (vs[11]? : Option Value) with | some (.ref P') => P' == P | _ => false) &&
      (match vs.getD 18 .none with | .str _ _ => true | _ => false) && (match vs.getD 7 .none with | .int _ _ => true | _ => false) &&
      (match vs.getD 9 .none with | .bool _ => true | _ => false) && (match vs.getD 10 .none with | .int _ _ => true | _ => false) && c != P
  | _ => false
theorem codeHdF_eq (hk : ∀ a, K.lookup a = kG g n a) (c P : Addr) : PySem.W.codeHdIn K c P = codeHdF g n c P := by
  unfold PySem.W.codeHdIn codeHdF
  rw [hk]
  rfl
def lamF (K : PySem.W.Frag) (g : Addr → Option Obj) (n : Nat) (o : Option Obj) (lam : List ((Str × Option Str) × Str)) : Bool :=
  (lam.all fun p => match tabFX K g n o p.1 with
    | some (c, P) => codeHdF g n c P && isTab (g P)
    | none => false) && uniT (lam.filterMap fun p => (tabFX K g n o p.1).map fun z => (z.2, p.2))
end
def nsOf : Option Obj → Addr
  | some ⟨_, _, .cls cd, _⟩ => cd.ns
  | _ => mainGlobals
/-- the addresses that the looks at the classes of refusals ask for -/
def hotX (g : Addr → Option Obj) (n : Nat) (o : Option Obj) (fx : List Fx) : List Addr :=
  mainGlobals :: gaF o "PrizeError" :: nsOf (kG g n (gaF o "PrizeError")) :: fx.flatMap fun f => match f with
    | .exc c => [gaF o c, nsOf (kG g n (gaF o c))]
    | _ => []
def obsF (n : Nat) (fa : List He.Fa) (fn : List He.FnD) (fx : List Fx) (lam : List ((Str × Option Str) × Str)) (g : Addr → Option Obj) : He.Al × Bool × Bool × Bool :=
  (((hotOk g n (hotX g n (kG g n mainGlobals) fx) && (fa.all (faF (kAll g n (hotX g n (kG g n mainGlobals) fx)) g n (kG g n mainGlobals)) && fn.all (dcF (kAll g n (hotX g n (kG g n mainGlobals) fx)) g n (kG g n mainGlobals)))), fn.map (dvF (kAll g n (hotX g n (kG g n mainGlobals) fx)) g n (kG g n mainGlobals))),
    sysB g, fx.all (fxF (kAll g n (hotX g n (kG g n mainGlobals) fx)) g n (kG g n mainGlobals)), lamF (kAll g n (hotX g n (kG g n mainGlobals) fx)) g n (kG g n mainGlobals) lam)
/-! ### names that are bound -/
def inF (l : List Str) (k : Str) : Bool := l.any fun x => match Nat.beq (codeS x) (codeS k) with
  | true => x == k
  | false => false
theorem inF_eq (l : List Str) (k : Str) : l.contains k = inF l k := by
  rw [Bool.eq_iff_iff, List.contains_iff_mem]
  unfold inF
  rw [List.any_eq_true]
  constructor
  · intro h
    refine ⟨k, h, ?_⟩
    rw [Nat.beq_refl]
    simp
  · rintro ⟨x, hx, e⟩
    cases q : Nat.beq (codeS x) (codeS k) with
    | true =>
      rw [q] at e
      have : x = k := by simpa using e
      exact this ▸ hx
    | false => rw [q] at e; cases e
def boundF (p : Program) (h : Heap) : Bool := h.isNs mainGlobals && (h.nsKeys mainGlobals).all fun k => inF startupNames k || inF p.boundNames k
theorem boundF_eq (p : Program) (h : Heap) : PySem.W.namesBound p h = boundF p h := by
  unfold PySem.W.namesBound boundF
  have e : (fun k => startupNames.contains k || p.boundNames.contains k) = fun k => inF startupNames k || inF p.boundNames k := funext fun k => by rw [inF_eq, inF_eq]
  rw [e]
/-! ### looks put together -/
theorem map_two {α β γ : Type} {o : Option α} {f : α → β} {g : α → γ} {b : β} {c : γ} (h1 : o.map f = some b) (h2 : o.map g = some c) : o.map (fun s => (f s, g s)) = some (b, c) := by
  cases o with
  | none => cases h1
  | some s =>
    cases h1
    cases h2
    rfl
theorem map_and {α : Type} {o : Option α} {f g : α → Bool} (h1 : o.map f = some true) (h2 : o.map g = some true) : o.map (fun s => f s && g s) = some true := by
  cases o with
  | none => cases h1
  | some s =>
    have e1 : f s = true := Option.some.inj h1
    have e2 : g s = true := Option.some.inj h2
    show some (f s && g s) = some true
    rw [e1, e2]
    rfl
end DL

namespace K07
open PySem PySem.Spec PyProof.Rows L2 DL
abbrev prg : Program := PySem.Challenge.pw_prizelog_k07_turns_refused
def top (i : Nat) : Stmt := prg.main.body.getD i (.Pass ⟨0, 0, 0, 0⟩)
def fa : List He.Fa := [.free "isinstance", .free "int", .free "bool", .free "tuple", .free "len", .free "all", .free "max", .free "range", .free "sum", .free "enumerate", .free "abs", .free "ValueError", .free "min", .int "MOST_PARTS" 60, .int "MOST_WEIGHT" 1000000, .glo "is_whole", .glo "is_within", .glo "is_from", .glo "are_weights", .glo "need_weights", .glo "need_number", .glo "stands_ahead", .glo "ahead_of", .glo "number_in", .glo "number_of", .glo "parts_of", .glo "next_part", .glo "last_part", .glo "first_counts", .glo "counts_of", .glo "penny_in", .glo "penny_at", .glo "has_none", .glo "are_counts", .glo "_law_stock", .glo "_law_take", .glo "_law_weights", .glo "_law_kind", .glo "_law_word", .glo "_law_bads", .glo "_law_first", .glo "_law_calls", .glo "law", .glo "NoWeights", .glo "NoPart", .glo "NoNumber", .glo "NoLog", .glo "NoChase", .glo "NoMiles", .glo "NoLogs", .glo "NoTable", .glo "NoSights", .glo "NoSet", .glo "NoRoll", .glo "NoName", .glo "NoHour", .glo "NoScheme", .glo "NoCrew", .glo "NoMan", .glo "NoSale", .glo "NoCrews", .glo "NoPages", .glo "NoPage", .glo "NoPrize", .glo "NoBalances", .glo "NoMoney", .glo "NoChange", .glo "NoText", .glo "NoRow", .glo "TooMany", .glo "PrizeError", .keep "is_whole", .keep "is_within", .keep "is_from", .keep "are_weights", .keep "need_weights", .keep "need_number", .keep "stands_ahead", .keep "ahead_of", .keep "number_in", .keep "number_of", .keep "parts_of", .keep "next_part", .keep "last_part", .keep "first_counts", .keep "counts_of", .keep "penny_in", .keep "penny_at", .keep "has_none", .keep "are_counts", .keep "_law_stock", .keep "_law_take", .keep "_law_weights", .keep "_law_kind", .keep "_law_word", .keep "_law_bads", .keep "_law_first", .keep "_law_calls", .keep "law"]
def dD (x : Str) (i : Nat) : He.FnD := ⟨(x, none), x, x, defArgs (top i), defBody (top i), defScope (top i)⟩
def dA (x y : Str) (i : Nat) : He.FnD := ⟨(x, none), y, y, defArgs (top i), defBody (top i), defScope (top i)⟩
def fn : List He.FnD := [dD "is_whole" 1, dD "is_within" 2, dD "is_from" 3, dD "are_weights" 36, dD "need_weights" 37, dD "need_number" 38, dD "stands_ahead" 39, dD "ahead_of" 40, dD "number_in" 41, dD "number_of" 42, dD "parts_of" 43, dD "next_part" 44, dD "last_part" 45, dD "first_counts" 46, dD "counts_of" 47, dD "penny_in" 48, dD "penny_at" 49, dD "has_none" 50, dD "are_counts" 51, dD "_law_stock" 53, dD "_law_take" 54, dD "_law_weights" 55, dD "_law_kind" 56, dD "_law_word" 57, dD "_law_bads" 58, dD "_law_first" 59, dD "_law_calls" 60, dD "law" 61]
def fx : List Fx := [.exc "NoWeights", .exc "NoNumber", .exc "NoPart"]
def lam : List ((Str × Option Str) × Str) := [(("_law_calls", none), "_law_calls.<locals>.<lambda>")]
abbrev R : PySem.W.OpenRow := PySem.W.OpenLaw.row PySem.Challenge.rw_prizelog_k07_turns_refused
def loose : List Str := "is_whole" :: "is_within" :: "is_from" :: "PrizeError" :: "NoWeights" :: "NoPart" :: "NoNumber" :: "NoLog" :: "NoChase" :: "NoMiles" :: "NoLogs" :: "NoTable" :: "NoSights" :: "NoSet" :: "NoRoll" :: "NoName" :: "NoHour" :: "NoScheme" :: "NoCrew" :: "NoMan" :: "NoSale" :: "NoCrews" :: "NoPages" :: "NoPage" :: "NoPrize" :: "NoBalances" :: "NoMoney" :: "NoChange" :: "TooMany" :: "NoText" :: "NoRow" :: "MOST_PARTS" :: "MOST_WEIGHT" :: "are_weights" :: "need_weights" :: "need_number" :: "stands_ahead" :: "ahead_of" :: "number_in" :: "number_of" :: "parts_of" :: "next_part" :: "last_part" :: "first_counts" :: "counts_of" :: "penny_in" :: "penny_at" :: "has_none" :: "are_counts" :: "_law_stock" :: "_law_take" :: "_law_weights" :: "_law_kind" :: "_law_word" :: "_law_bads" :: "_law_first" :: "_law_calls" :: []
section
open PySem.W HandSHeadRun
noncomputable abbrev stp (w : World) (os : OsState) : Option SharedT := endF (stepQ (denQ tabQ) R.prog w) 20000 R.prog w os
theorem run_l (w : World) (os : OsState) : (stp w os).map (fun s => staticsOk (importedModules R.prog.main.body) (boot_heap w.params) s.abs.heap && boundF R.prog s.abs.heap && gensDone s.abs && laidKept (boot_heap w.params) s.abs.heap) = some true := by
  kernel_rfl
theorem run_s (w : World) (os : OsState) : (stp w os).map (fun s => seenQ (view R.prog [61]) loose (importedModules R.prog.main.body) (fun s => xlAt (view R.prog [61]) [] s && recOk R.toRowW.records s) s.abs) = some (openGood (view R.prog [61]) loose) := by
  kernel_rfl
theorem run_o (w : World) (os : OsState) : (stp w os).map (fun s => obsF 20000 fa fn fx lam (getT s)) = some (He.valE fn, true, true, true) := by
  kernel_rfl
theorem f_open : opening R.prog = plainProg R.prog.main.scope.names := by kernel_rfl
theorem f_fence (s : Shared) : fenceModules? R.prog s = some s := by kernel_rfl
theorem f_def : defOf (view R.prog [61]) R.name = some (topDef R.prog 61, []) := by kernel_rfl
theorem f_the : R.prog.theDef R.name = some ((topDef R.prog 61).params, (topDef R.prog 61).body, (topDef R.prog 61).scope) := by kernel_rfl
theorem f_kw : kwWritten? (topDef R.prog 61).params.kwonlyargs (topDef R.prog 61).params.kw_defaults = some [] := by kernel_rfl
theorem f_ok : (chainsOk (view R.prog [61]) && opensWell R.prog && (frees R.toRowW && R.within.isEmpty)) = true := by decide +kernel
theorem f_bare : R.prog.bare := ⟨rfl, rfl, rfl, rfl, rfl, by decide +kernel⟩
end
set_option maxHeartbeats 0 in
open PySem.W PySem.Calls PyProof.Rows in
theorem f_law (H : (PySem.W.OpenLaw.row PySem.Challenge.rw_prizelog_k07_turns_refused).wellSaid = true -> (PySem.W.OpenLaw.row PySem.Challenge.rw_prizelog_k07_turns_refused).Holds) : PySem.Challenge.rw_prizelog_k07_turns_refused.Holds := by
  w_on; o_law
  exact H (by assumption)
end K07
namespace DL
open PySem PySem.Spec PyProof.Rows L2
/-- a tuple's object that has no dict -/
def PlT (o : Obj) : Prop := o.cls = .type "tuple" ∧ o.dict = none
section
variable {X : Cx} {pins : List (Addr × Obj)} {σ : L2.St} {H : Hp} {s : Shared}
theorem layZ (I : Inv X pins σ H s) {xs : List V} {its : List Value} {arr : Array Value} {tk : Nat} (r : Vals xs its) (ha : arr = its.toArray) (hz : xs.length ≤ sizeLine) :
    ∃ o, PlT o ∧ Inv X pins σ (upd H s.heap.objs.size (.frz o (.tup xs))) { s with heap := s.heap.push { cls := .type "tuple", data := .seq arr }, toks := tk } := by
  subst ha
  refine ⟨{ cls := .type "tuple", data := .seq its.toArray }, ⟨rfl, rfl⟩, I.laid (fun b u e => Heap.get?_push_of_some _ e) (Nat.le_refl _) ?_⟩
  exact ⟨Heap.get?_push_size _ rfl, hz, its, r, ⟨_, Heap.get?_push_size _ rfl, rfl, _, rfl⟩⟩
/-- what a new tuple of the items xs is answered with -/
def NewZ (H : Hp) (xs : List V) (Q : VK) : Prop := ∀ p o, H p = none → PlT o → Q (.ref p) (upd H p (.frz o (.tup xs)))
theorem endZ (I : Inv X pins σ H s) {xs : List V} {its : List Value} {arr : Array Value} {tk : Nat} {Q : VK} (r : Vals xs its) (ha : arr = its.toArray) (hz : xs.length ≤ sizeLine) (q : NewZ H xs Q) :
    EP X pins σ Q (.ref s.heap.objs.size) { s with heap := s.heap.push { cls := .type "tuple", data := .seq arr }, toks := tk } := by
  obtain ⟨o, po, J⟩ := layZ (tk := tk) I r ha hz
  exact ⟨.ref s.heap.objs.size, _, J, rfl, q _ _ (I.hok.fresh (Nat.le_refl _)) po⟩
end
section
variable {X : Cx} {a b e : Expr} {es : List Expr} {t : TA} {ta : TE} {pos : Pos}
def tTupZ (t : TA) : TE := fun σ H Q => t σ H fun xs H1 => xs.length ≤ sizeLine ∧ NewZ H1 xs Q
theorem pe_tupZ {x1} (h : PA X es t) : PE X (.Tuple es x1 pos) (tTupZ t) := ⟨fun pins s σ H Q I hq => by
  refine wpAny_Tuple_spliced (thn (h.run pos pins s σ H _ I hq) ?_)
  intro us s1 ⟨xs, H1, I1, r, z, q⟩
  exact ⟨r.length ▸ z, endZ (tk := s1.toks) I1 r rfl z q⟩⟩
def rCatZ (K : PySem.W.Frag) : R2 := fun x y H Q => ∃ a b xs ys, x = .ref a ∧ y = .ref b ∧ SqT K H a xs ∧ SqT K H b ys ∧ xs.length + ys.length ≤ sizeLine ∧
  (xs = [] → Q (.ref b) H) ∧ (xs ≠ [] → ys = [] → Q (.ref a) H) ∧ (xs ≠ [] → ys ≠ [] → NewZ H (xs ++ ys) Q)
theorem op_catZ : OpR X (binaryOp .Add) (rCatZ X.K) := by
  rintro pins s σ H _ _ v u Q I rx ry ⟨l, m, xs, ys, rfl, rfl, hl, hm, hz, q0, q1, q2⟩
  cases rx
  cases ry
  obtain ⟨us, r1, p1, _⟩ := I.tuple hl
  obtain ⟨ws, r2, p2, _⟩ := I.tuple hm
  by_cases hx : xs = []
  · subst hx
    cases r1
    exact cat_tup0 p1 p2 ⟨.ref m, H, I, rfl, q0 rfl⟩
  · refine HT.cat_tup p1 p2 (mt r1.nil_iff.mp hx) (fun z => ⟨.ref l, H, I, rfl, q1 hx (r2.nil_iff.mp z)⟩) (fun z => ?_) (by rw [← r1.length, ← r2.length]; exact hz)
    exact endZ (tk := s.toks) I (r1.append r2) rfl (by simpa using hz) (q2 hx (mt r2.nil_iff.mpr z))
/-- tuple(..) of a list or a tuple -/
def kTupZ (K : PySem.W.Frag) (x : V) (H : Hp) (Q : VK) : Prop := (∃ p xs, x = .ref p ∧ SqL K H p xs ∧ NewZ H xs Q) ∨ (∃ p xs, x = .ref p ∧ SqT K H p xs ∧ Q (.ref p) H)
theorem rl_tupleZ (pins : List (Addr × Obj)) (s : Shared) (σ : L2.St) (H : Hp) (x : V) (v : Value) (Q : VK) (I : Inv X pins σ H s) (r : RelV x v) (h : kTupZ X.K x H Q) :
    wpAny (model X.prog X.w) X.A (call (.type "tuple") [v]) (EP X pins σ Q) X.xe s := by
  rcases h with ⟨l, xs, rfl, hs, q⟩ | ⟨l, xs, rfl, hs, q⟩
  · cases r
    obtain ⟨us, rv, pl, hz⟩ := I.list hs
    refine call_tuple_list pl.isList (fun h' hk => ?_) (by rw [List.size_toArray, ← rv.length]; exact hz)
    exact endZ (tk := s.toks) (s := { s with heap := h' }) (I.kept (t' := s.toks) hk) rv rfl hz q
  · cases r
    obtain ⟨us, rv, pl, hz⟩ := I.tuple hs
    exact call_tuple_tup pl ⟨.ref l, H, I, rfl, q⟩
theorem pe_tupleZ {p : Pos} (hg : Gl X "tuple") (hm : X.mg "tuple" = none) (ha : PE X a ta) (na : starEach [a] X.env = (false, eval a X.env) :: starEach [] X.env := by rfl) :
    PE X (.Call (.Name "tuple" p) [a] [] pos) (tThen ta (kTupZ X.K)) := ⟨fun pins s σ H Q I h =>
  Call_ (ld_blt I hg hm boot_tuple (PyProof.Rows.callWith_type1 (one_arg ha I h (fun v s2 x H2 I2 r q => rl_tupleZ pins s2 σ H2 x v Q I2 r q) na) na))⟩
/-- xs * k, k from 2 on -/
def rRepZ (K : PySem.W.Frag) : R2 := fun x y H Q => ∃ l k xs, x = .ref l ∧ y = .int k ∧ SqT K H l xs ∧ xs ≠ [] ∧ 2 ≤ k ∧ k ≤ 1000 ∧ xs.length ≤ 1000 ∧ NewZ H (List.replicate k.toNat xs).flatten Q
theorem op_repZ : OpR X (binaryOp .Mult) (rRepZ X.K) := by
  rintro pins s σ H _ _ v u Q I rx ry ⟨l, k, xs, rfl, rfl, hT, hne, h1, h2, hz, q⟩
  cases rx
  obtain ⟨t, rfl⟩ := ry
  obtain ⟨us, r, ⟨⟨cls, dd, data, sl⟩, ho, hc, n, hd⟩, _⟩ := I.tuple hT
  simp only at hc hd
  subst hc hd
  have hl : us.toArray.size = xs.length := by rw [List.size_toArray, ← r.length]
  have e0 : us.toArray.isEmpty = false := by
    cases us with
    | nil => exact absurd (r.nil_iff.mp rfl) hne
    | cons _ _ => rfl
  have big : k.toNat * xs.length ≤ 1000 * 1000 := Nat.mul_le_mul (by omega) hz
  have bigI : ((us.toArray.size : Nat) : Int) * k ≤ 1000000 := by
    have z : ((xs.length * k.toNat : Nat) : Int) ≤ 1000000 := by rw [Nat.mul_comm]; omega
    rw [hl]
    rw [Int.natCast_mul, Int.toNat_of_nonneg (by omega)] at z
    exact z
  have fl : (List.replicate k.toNat us).flatten.length ≤ sizeLine := by
    rw [PyProof.Rows.lm_len_rep_flat, ← r.length, sizeLine_eq]
    omega
  have c0 : (decide (k < -(2 ^ 63)) || decide (k ≥ 2 ^ 63)) = false := by
    rw [Bool.or_eq_false_iff]
    exact ⟨decide_eq_false (by omega), decide_eq_false (by omega)⟩
  have c1 : (us.toArray.isEmpty || k == 1) = false := by rw [e0, Bool.false_or, beq_eq_false_iff_ne]; omega
  have c2 : (decide (k ≤ 0) || us.toArray.isEmpty) = false := by rw [e0, Bool.or_false]; exact decide_eq_false (by omega)
  have c4 : Builtin.Tuple.tupleTooMany (((us.toArray.size : Nat) : Int) * k) = false := decide_eq_false (by rw [sizeLine_eq]; omega)
  refine wpAny_binaryOp_repeat_ref (T := "tuple") (U := "int") (by decide) ⟨_, ho, rfl⟩ (fun _ => typeIs_int _ k t) noFill_tuple_mul F.fills_int_mul F.slot_int_rmul repeat_tuple F.slot_int_index.lookup ?_
  refine call_meets F.slot_int_rmul (typeIs_int s k t) F.entry_int_rmul (F.args_int_rmul_2 _ _) (int_rmul_tuple k t l us.toArray n dd sl) ⟨ho, rfl, ⟨_, ho, rfl⟩, ?_⟩
  refine call_meets F.slot_tuple_mul ⟨_, ho, rfl⟩ F.entry_tuple_mul (F.args_tuple_mul_2 _ _) (tuple_mulW l us.toArray n dd sl k t c0 c1 c2 (by omega) c4 ?_) ⟨ho, ?_⟩
  · rw [size_rep, List.size_toArray]
    exact fl
  · rw [size_rep]
    exact endZ (tk := s.toks) I (r.rep k.toNat) rfl (by rw [PyProof.Rows.lm_len_rep_flat, sizeLine_eq]; omega) q
end
/-- a dict whose keys are tuples of whole numbers and texts: the keys, where they stand, the values -/
abbrev DicE (P : Program) (w : World) (a : Addr) (xs : List (List Key × Addr × Value)) : HO := .ext fun h => ((a == sysModules) = false ∧ xs.length ≤ sizeLine) ∧
  ∃ o es ep, h.get? a = some o ∧ o.ExactDict ∧ o.data = .dict es ep ∧ es.toList = xs.map (entryOfKey (tupleKind (mixKind P w))) ∧ (xs.map (·.1)).Nodup
end DL

namespace DL
open PySem PySem.Spec PyProof.Rows L2
open Evl (Ex)

/-- a list that stays as it is: tracked, known, or written at the top -/
def RdL (K : PySem.W.Frag) (F : Hp) (a : Addr) (xs : List V) : Prop :=
  Rd F a (.lst xs) ∨ ∃ (its : List Value) (n : Nat), K.lookup a = some { cls := .type "list", data := .seq its.toArray n } ∧ Vals xs its ∧ its.length ≤ sizeLine
theorem RdL.mono {K : PySem.W.Frag} {F F' : Hp} {a : Addr} {xs : List V} (e : Ex F F') (h : RdL K F a xs) : RdL K F' a xs := h.imp (Evl.ex_rd e) id
theorem RdL.of {K : PySem.W.Frag} {F : Hp} {a : Addr} {xs : List V} (h : F a = some (.lst xs)) : RdL K F a xs := .inl (.inl h)
theorem RdL.sq {K : PySem.W.Frag} {F : Hp} {a : Addr} {xs : List V} (h : RdL K F a xs) : SqL K F a xs := by
  rcases h with h | ⟨its, n, h1, h2, h3⟩
  · exact .inl h
  · exact .inr ⟨_, its.toArray, n, h1, rfl, rfl, rfl, by simpa using h3, by simpa using h2⟩
theorem RdL.obj {X : Cx} {pins : List (Addr × Obj)} {σ : L2.St} {H : Hp} {s : Shared} {a : Addr} {xs : List V} (h : RdL X.K H a xs) (I : Inv X pins σ H s) : xs.length ≤ sizeLine ∧ ∃ (its : List Value) (n : Nat), Vals xs its ∧ s.heap.get? a = some { cls := .type "list", data := .seq its.toArray n } := by
  rcases h with h | ⟨its, n, h1, h2, h3⟩
  · exact h.ok I.hok
  · exact ⟨by rw [h2.length]; exact h3, its, n, h2, I.kIn a _ h1⟩
structure XcF (K : PySem.W.Frag) (c : Str) : Prop where
  cls : ExcC K (He.ga K c)
  made : PySem.W.excIn K (He.ga K c) exBases "ValueError.__new__" = true
  kp : PySem.W.keepIn K (.ref (He.ga K c)) = true
  ty : PySem.W.typeIn K (.ref (He.ga K c)) = some (.type "type")
  exm : PySem.W.exmOne K (.ref (He.ga K c)) (.ref (He.ga K "PrizeError")) = some true
  ve : PySem.W.kitOne K (.ref (He.ga K c)) (.type "ValueError") = some true
  six : ∀ T ∈ exTypes, PySem.W.kitOne K (.ref (He.ga K c)) (.type T) = some false
  own : ∀ d ∈ exNames, PySem.W.kitOne K (.ref (He.ga K c)) (.ref (He.ga K d)) = some (exSub c d)
  exo : ∀ d ∈ exNames, PySem.W.exmOne K (.ref (He.ga K c)) (.ref (He.ga K d)) = some (exSub c d)
theorem xcB_ok {K : PySem.W.Frag} {c : Str} (h : xcB K c = true) : XcF K c := by
  unfold xcB at h
  simp only [Bool.and_eq_true, decide_eq_true_eq, List.all_eq_true] at h
  obtain ⟨a1, a2, a3, a4, a5, a6, a7, a8, a9, b1, b2, b3, b4, b5, b6, b7⟩ := h
  exact ⟨⟨a1, a2, a3, a4, a5, a6, a7, a8⟩, a9, b1, b2, b3, b4, b5, b6, b7⟩
/-- an exception's object -/
def ExcAt (C a : Addr) : Heap → Prop := fun h => ∃ oe vs, h.get? a = some oe ∧ oe.cls = .ref C ∧ oe.dict = none ∧ oe.data = .fields vs ∧ vs[2]? = some .none
/-- a tuple that stays, whose object has no dict -/
def TqT (K : PySem.W.Frag) (F : Hp) (a : Addr) (xs : List V) : Prop := (∃ o, F a = some (.frz o (.tup xs)) ∧ PlT o) ∨
  ∃ (o : Obj) (its : Array Value) (n : Nat), K.lookup a = some o ∧ PlT o ∧ o.data = .seq its n ∧ its.size ≤ sizeLine ∧ Vals xs its.toList
theorem TqT.sq {K : PySem.W.Frag} {F : Hp} {a : Addr} {xs : List V} (h : TqT K F a xs) : SqT K F a xs := by
  rcases h with ⟨o, h, _⟩ | ⟨o, its, n, h1, h2, h3, h4, h5⟩
  · exact .inl (.inr ⟨o, h⟩)
  · exact .inr ⟨o, its, n, h1, h2.1, h3, h4, h5⟩
theorem TqT.mono {K : PySem.W.Frag} {F F' : Hp} {a : Addr} {xs : List V} (e : Ex F F') (h : TqT K F a xs) : TqT K F' a xs := h.imp (fun ⟨o, h, p⟩ => ⟨o, e _ _ h, p⟩) id
/-- a dict whose keys are whole numbers and texts -/
abbrev KkE (P : Program) (w : World) (a : Addr) (vs : List (Key × V)) : HO := .ext fun h => vs.length ≤ sizeLine ∧ (a == sysModules) = false ∧ ∃ us, KV vs us ∧ h.DictOf (mixKind P w) a us
/-- an instance -/
abbrev InsE (a C dx : Addr) : HO := .ext fun h => h.get? a = some (PySem.W.instObj C dx)
/-- an instance's dict -/
abbrev DctE (dx : Addr) (fs : List (Str × V)) : HO := .ext fun h => fs.length ≤ 1000 ∧ ∃ mA, h.Ns1 dx mA ∧ (∀ f, RelO (fs.lookup f) (mA f)) ∧ PySem.Within mA (fs.map (·.1))
/-- a list of one's own, within another one or holding such -/
abbrev LsE (a : Addr) (vs : List V) : HO := .ext fun h => vs.length ≤ sizeLine ∧ ∃ (its : List Value) (n : Nat), Vals vs its ∧ h.get? a = some { cls := .type "list", data := .seq its.toArray n }
/-- a thing that is of none of the kinds asked for -/
def IsiNo (K : PySem.W.Frag) (H : Hp) (a : Addr) : Prop := ∀ (X : Cx) (pins : List (Addr × Obj)) (s : Shared) (σ : L2.St) (T : String) (Q : VK), X.K = K → T ∈ exTypes → Inv X pins σ H s → Q (.bl false) H →
  wpAny (model X.prog X.w) X.A (call (.builtin "isinstance") [.ref a, .type T]) (EP X pins σ Q) X.xe s
/-- what an opaque thing is known by: where it stands, or the def's name -/
def Opq (K : PySem.W.Frag) (a : Addr) (d : PyData) : Prop := d = .int (a : Nat) ∨ ∃ f : Str, d = .tuple [.str f] ∧ a = He.ga K f
mutual
inductive DR (K : PySem.W.Frag) (F : Hp) : V → PyData → Prop
  | non : DR K F .non .none
  | bl (b : Bool) : DR K F (.bl b) (.bool b)
  | int (i : Int) : DR K F (.int i) (.int i)
  | str (x : Str) : DR K F (.str x) (.str x)
  | lst {a : Addr} {xs : List V} {ds : List PyData} : RdL K F a xs → DRs K F xs ds → DR K F (.ref a) (.list ds)
  | tup {a : Addr} {xs : List V} {ds : List PyData} : TqT K F a xs → DRs K F xs ds → DR K F (.ref a) (.tuple ds)
  /-- a dict that stays, its keys whole numbers and texts -/
  | dct {a : Addr} {o : Obj} {vs : List (Key × V)} {ds : List (PyData × PyData)} : F a = some (.frz o (.dK vs)) → DM K F vs ds → DR K F (.ref a) (.dict ds)
  /-- a list that a def made and may still change -/
  | row {a : Addr} {xs : List V} {ds : List PyData} : F a = some (.lst xs) → DRs K F xs ds → DR K F (.ref a) (.dict [(.none, .list ds)])
  /-- a caught refusal of the class c -/
  | exc {a : Addr} {c : Str} : F a = some (.ext (ExcAt (He.ga K c) a)) → XcF K c → DR K F (.ref a) (.dict [(.none, .str c)])
  /-- a def, or a thing known by its place alone -/
  | opq {a : Addr} {d : PyData} : (∀ F', Ex F F' → IsiNo K F' a) → Opq K a d → DR K F (.ref a) (.dict [(.none, d)])
inductive DRs (K : PySem.W.Frag) (F : Hp) : List V → List PyData → Prop
  | nil : DRs K F [] []
  | cons {v : V} {vs : List V} {d : PyData} {ds : List PyData} : DR K F v d → DRs K F vs ds → DRs K F (v :: vs) (d :: ds)
inductive DM (K : PySem.W.Frag) (F : Hp) : List (Key × V) → List (PyData × PyData) → Prop
  | nil : DM K F [] []
  | int {n : Int} {v : V} {vs : List (Key × V)} {d : PyData} {ds : List (PyData × PyData)} : DR K F v d → DM K F vs ds → DM K F ((.inl n, v) :: vs) ((.int n, d) :: ds)
  | str {x : Str} {v : V} {vs : List (Key × V)} {d : PyData} {ds : List (PyData × PyData)} : DR K F v d → DM K F vs ds → DM K F ((.inr x, v) :: vs) ((.str x, d) :: ds)
end

section
variable {K : PySem.W.Frag} {F F' H H' : Hp}
mutual
theorem DR.mono (e : Ex F F') : ∀ {v : V} {d : PyData}, DR K F v d → DR K F' v d
  | _, _, .non => .non
  | _, _, .bl b => .bl b
  | _, _, .int i => .int i
  | _, _, .str x => .str x
  | _, _, .lst h r => .lst (h.mono e) (DRs.mono e r)
  | _, _, .tup h r => .tup (h.mono e) (DRs.mono e r)
  | _, _, .dct h m => .dct (e _ _ h) (DM.mono e m)
  | _, _, .row h r => .row (e _ _ h) (DRs.mono e r)
  | _, _, .exc h x => .exc (e _ _ h) x
  | _, _, .opq h x => .opq (fun F2 e2 => h F2 (e.trans e2)) x
theorem DRs.mono (e : Ex F F') : ∀ {v : List V} {d : List PyData}, DRs K F v d → DRs K F' v d
  | _, _, .nil => .nil
  | _, _, .cons a b => .cons (DR.mono e a) (DRs.mono e b)
theorem DM.mono (e : Ex F F') : ∀ {vs : List (Key × V)} {ds : List (PyData × PyData)}, DM K F vs ds → DM K F' vs ds
  | _, _, .nil => .nil
  | _, _, .int a b => .int (DR.mono e a) (DM.mono e b)
  | _, _, .str a b => .str (DR.mono e a) (DM.mono e b)
end
theorem DM.length : ∀ {vs : List (Key × V)} {ds : List (PyData × PyData)}, DM K F vs ds → vs.length = ds.length
  | _, _, .nil => rfl
  | _, _, .int _ b => congrArg (· + 1) b.length
  | _, _, .str _ b => congrArg (· + 1) b.length
theorem DRs.length : ∀ {vs : List V} {ds : List PyData}, DRs K F vs ds → vs.length = ds.length
  | _, _, .nil => rfl
  | _, _, .cons _ b => congrArg (· + 1) b.length
theorem DRs.get : ∀ {vs : List V} {ds : List PyData} {i : Nat} {d : PyData}, DRs K F vs ds → ds[i]? = some d → ∃ v, vs[i]? = some v ∧ DR K F v d
  | _, _, _, _, .nil, h => by simp at h
  | _, _, 0, _, .cons a b, h => by simp at h; subst h; exact ⟨_, rfl, a⟩
  | _, _, i + 1, d, .cons a b, h => by
    obtain ⟨v, h1, h2⟩ := b.get (i := i) (d := d) (by simpa using h)
    exact ⟨v, by simpa using h1, h2⟩
theorem DRs.append : ∀ {vs ws : List V} {ds es : List PyData}, DRs K F vs ds → DRs K F ws es → DRs K F (vs ++ ws) (ds ++ es)
  | _, _, _, _, .nil, h => h
  | _, _, _, _, .cons a b, h => .cons a (b.append h)
theorem DRs.take : ∀ {vs : List V} {ds : List PyData} (n : Nat), DRs K F vs ds → DRs K F (vs.take n) (ds.take n)
  | _, _, 0, _ => .nil
  | _, _, _ + 1, .nil => .nil
  | _, _, n + 1, .cons a b => .cons a (b.take n)
theorem DRs.drop : ∀ {vs : List V} {ds : List PyData} (n : Nat), DRs K F vs ds → DRs K F (vs.drop n) (ds.drop n)
  | _, _, 0, h => h
  | _, _, _ + 1, .nil => .nil
  | _, _, n + 1, .cons a b => b.drop n
theorem DRs.set : ∀ {vs : List V} {ds : List PyData} (n : Nat) {v : V} {d : PyData}, DR K F v d → DRs K F vs ds → DRs K F (vs.set n v) (ds.set n d)
  | _, _, _, _, _, _, .nil => .nil
  | _, _, 0, _, _, h, .cons a b => .cons h b
  | _, _, n + 1, _, _, h, .cons a b => .cons a (b.set n h)
theorem DRs.one {v : V} {d : PyData} (h : DR K F v d) : DRs K F [v] [d] := .cons h .nil
theorem DRs.inv1 {vs : List V} {d : PyData} (h : DRs K F vs [d]) : ∃ v, vs = [v] ∧ DR K F v d := by
  cases h with
  | cons a b => cases b; exact ⟨_, rfl, a⟩
theorem DRs.inv2 {vs : List V} {d e : PyData} (h : DRs K F vs [d, e]) : ∃ v w, vs = [v, w] ∧ DR K F v d ∧ DR K F w e := by
  cases h with
  | cons a b =>
    obtain ⟨w, rfl, r⟩ := b.inv1
    exact ⟨_, w, rfl, a, r⟩
theorem DR.inv_int {v : V} {i : Int} (h : DR K F v (.int i)) : v = .int i := by cases h; rfl
theorem DR.inv_bool {v : V} {i : Bool} (h : DR K F v (.bool i)) : v = .bl i := by cases h; rfl
theorem DR.inv_str {v : V} {i : Str} (h : DR K F v (.str i)) : v = .str i := by cases h; rfl
theorem DR.inv_tup {v : V} {ds : List PyData} (h : DR K F v (.tuple ds)) : ∃ a xs, v = .ref a ∧ SqT K F a xs ∧ DRs K F xs ds := by cases h with | tup a b => exact ⟨_, _, rfl, a.sq, b⟩
theorem DR.inv_lst {v : V} {ds : List PyData} (h : DR K F v (.list ds)) : ∃ a xs, v = .ref a ∧ RdL K F a xs ∧ DRs K F xs ds := by cases h with | lst a b => exact ⟨_, _, rfl, a, b⟩
end

/-- things of one's own: dicts whose keys are tuples of whole numbers and texts; whose keys are whole numbers and texts; lists of lists -/
inductive Own where
  | tk (kvs : List (List Key × PyData))
  | kk (kvs : List (PyData × PyData))
  | mt (rows : List (List PyData))
  /-- an instance of a class: which parameter it is, the class, its data, its lists -/
  | ins (p : Option Nat) (c : Str) (ds : List (Str × PyData)) (ls : List (Str × List PyData))
inductive SD where
  | un
  | dat (d : PyData)
  | cel (p : Bool) (xs : List PyData)
  /-- a thing of one's own -/
  | dic (w : Own)
/-- what is fixed for a def's whole run -/
structure Zx (T : List (Addr × Str)) where
  F0 : Hp
  H0 : Hp
  A0 : Nat → Option Addr
  Pr0 : Hp
  P : Program
  w : World
  W0 : Nat → Option Addr
structure Gx (Z : Zx T) where
  Pr : Hp
  px : Ex Z.Pr0 Pr
  pl : ∀ a o, Pr a = some o → ∀ ps, o ≠ .tbl ps
variable {T : List (PySem.Addr × PySem.Str)} {Z : Zx T}
def Gx.hid (g : Gx Z) (D : Addr) (vs : List V) (h : g.Pr D = none) : Gx Z := ⟨upd g.Pr D (.lst vs), fun a o e => by
  have q := g.px a o e
  have ne : a ≠ D := fun z => by rw [z, h] at q; cases q
  rw [upd_ne ne]
  exact q, fun a o e => by
  by_cases z : a = D
  · subst z
    rw [upd_same] at e
    cases e
    exact fun _ y => by cases y
  · rw [upd_ne z] at e
    exact g.pl a o e⟩
abbrev Gx.F0 (_ : Gx Z) : Hp := Z.F0
abbrev Gx.H0 (_ : Gx Z) : Hp := Z.H0
abbrev Gx.A0 (_ : Gx Z) : Nat → Option Addr := Z.A0
/-- the dict's keys and values as they stand -/
def DicR (K : PySem.W.Frag) (F : Hp) (kvs : List (List Key × PyData)) (xs : List (List Key × Addr × Value)) : Prop :=
  Paired (fun p x => p.1 = x.1 ∧ TqT K F x.2.1 (p.1.map kV) ∧ ∃ v, DR K F v p.2 ∧ RelV v x.2.2) kvs xs
theorem DicR.mono {K : PySem.W.Frag} {F F' : Hp} (e : Ex F F') {kvs : List (List Key × PyData)} {xs : List (List Key × Addr × Value)} (h : DicR K F kvs xs) : DicR K F' kvs xs :=
  Paired.mapP h fun _ _ ⟨h1, h2, v, h3, h4⟩ => ⟨h1, h2.mono e, v, h3.mono e, h4⟩
/-- an instance at a; bs: its dict, its lists -/
def InsR (K : PySem.W.Frag) (F H : Hp) (a : Addr) (bs : List Addr) (c : Str) (ds : List (Str × PyData)) (ls : List (Str × List PyData)) : Prop :=
  ∃ (dx : Addr) (lps : List Addr) (fs : List (Str × V)), bs = dx :: lps ∧ (a :: dx :: lps).Nodup ∧ H a = some (InsE a (He.ga K c) dx) ∧ H dx = some (DctE dx fs) ∧
    Paired (fun b (row : List PyData) => ∃ us, H b = some (LsE b us) ∧ DRs K F us row) lps (ls.map (·.2)) ∧
    (∀ (f : Str) (d : PyData), ds.lookup f = some d → ∃ v, fs.lookup f = some v ∧ DR K F v d) ∧
    (∀ (i : Nat) (f : Str) (row : List PyData), ls[i]? = some (f, row) → ∃ b, lps[i]? = some b ∧ fs.lookup f = some (.ref b)) ∧
    (∀ f : Str, ds.lookup f = none → ls.lookup f = none → fs.lookup f = none) ∧ fs.length ≤ ds.length + ls.length
theorem rows_mono {K : PySem.W.Frag} {F F' H H' : Hp} {bs : List Addr} {rows : List (List PyData)} (e : Ex F F') (h3 : Paired (fun b row => ∃ us, H b = some (LsE b us) ∧ DRs K F us row) bs rows) (hk : ∀ x ∈ bs, H' x = H x) : Paired (fun b row => ∃ us, H' b = some (LsE b us) ∧ DRs K F' us row) bs rows := by
  induction h3 with
  | nil => exact .nil
  | cons h t ih =>
    obtain ⟨us, z1, z2⟩ := h
    exact .cons ⟨us, (hk _ List.mem_cons_self).trans z1, z2.mono e⟩ (ih fun x hx => hk x (List.mem_cons_of_mem _ hx))
theorem InsR.keep {K : PySem.W.Frag} {F F' H H' : Hp} {a : Addr} {bs : List Addr} {c : Str} {ds : List (Str × PyData)} {ls : List (Str × List PyData)} (r : InsR K F H a bs c ds ls) (e : Ex F F') (hk : ∀ x ∈ a :: bs, H' x = H x) : InsR K F' H' a bs c ds ls := by
  obtain ⟨dx, lps, fs, rfl, h1, h2, h3, h4, h5, h6, h7, h8⟩ := r
  refine ⟨dx, lps, fs, rfl, h1, (hk a List.mem_cons_self).trans h2, (hk dx (List.mem_cons_of_mem _ List.mem_cons_self)).trans h3, rows_mono e h4 fun x hx => hk x (List.mem_cons_of_mem _ (List.mem_cons_of_mem _ hx)), fun f d z => ?_, h6, h7, h8⟩
  obtain ⟨v, y1, y2⟩ := h5 f d z
  exact ⟨v, y1, y2.mono e⟩
/-- what stands for such a thing at a, with further places bs -/
def OwnR (K : PySem.W.Frag) (Z : Zx T) (F H : Hp) (a : Addr) (bs : List Addr) : Own → Prop
  | .tk kvs => bs = [] ∧ ∃ xs, H a = some (DicE Z.P Z.w a xs) ∧ DicR K F kvs xs
  | .kk ds => bs = [] ∧ ∃ vs, H a = some (KkE Z.P Z.w a vs) ∧ DM K F vs ds
  | .mt rows => (H a = some (LsE a (bs.map .ref)) ∧ (a :: bs).Nodup) ∧ Paired (fun b row => ∃ us, H b = some (LsE b us) ∧ DRs K F us row) bs rows
  | .ins p c ds ls => (∀ i, p = some i → Z.W0 i = some a) ∧ InsR K F H a bs c ds ls
structure OwnAt (K : PySem.W.Frag) (g : Gx Z) (F H : Hp) (a : Addr) (bs : List Addr) (w : Own) : Prop where
  rel : OwnR K Z F H a bs w
  out : ∀ x ∈ a :: bs, F x = none ∧ g.H0 x = none ∧ g.Pr x = none ∧ ∃ φ, H x = some (.ext φ)
structure DicsB (K : PySem.W.Frag) (g : Gx Z) (F : Hp) (env : List SD) (σ : L2.St) (H : Hp) (B : Nat → List Addr) : Prop where
  at_ : ∀ (i : Nat) (w : Own), env[i]? = some (.dic w) → ∃ a, σ[i]? = some (some (.ref a)) ∧ OwnAt K g F H a (B i) w
  sep : ∀ (i j : Nat) (w w' : Own) (a b : Addr), env[i]? = some (.dic w) → env[j]? = some (.dic w') → σ[i]? = some (some (.ref a)) → σ[j]? = some (some (.ref b)) → i ≠ j → ∀ x ∈ a :: B i, x ∉ b :: B j
def DicsOk (K : PySem.W.Frag) (g : Gx Z) (F : Hp) (env : List SD) (σ : L2.St) (H : Hp) : Prop := ∃ B, DicsB K g F env σ H B
section
variable {K : PySem.W.Frag} {g g' : Gx Z} {F F' : Hp} {env : List SD} {σ : L2.St} {H H' : Hp}
theorem OwnR.keep {a : Addr} {bs : List Addr} {w : Own} (r : OwnR K Z F H a bs w) (e : Ex F F') (hk : ∀ x ∈ a :: bs, H' x = H x) : OwnR K Z F' H' a bs w := by
  cases w with
  | tk kvs =>
    obtain ⟨rfl, xs, h1, h2⟩ := r
    exact ⟨rfl, xs, (hk a List.mem_cons_self).trans h1, h2.mono e⟩
  | kk ds =>
    obtain ⟨rfl, xs, h1, h2⟩ := r
    exact ⟨rfl, xs, (hk a List.mem_cons_self).trans h1, h2.mono e⟩
  | mt rows =>
    obtain ⟨⟨h1, h2⟩, h3⟩ := r
    refine ⟨⟨(hk a List.mem_cons_self).trans h1, h2⟩, ?_⟩
    have hk2 : ∀ x ∈ bs, H' x = H x := fun x hx => hk x (List.mem_cons_of_mem _ hx)
    clear h1 h2 hk
    induction h3 with
    | nil => exact .nil
    | cons h t ih =>
      obtain ⟨us, z1, z2⟩ := h
      exact .cons ⟨us, (hk2 _ List.mem_cons_self).trans z1, z2.mono e⟩ (ih fun x hx => hk2 x (List.mem_cons_of_mem _ hx))
  | ins p c ds ls => exact ⟨r.1, r.2.keep e hk⟩
theorem OwnR.castZ {Z' : Zx T} (hP : Z.P = Z'.P) (hW : Z.w = Z'.w) (h9 : Z.W0 = Z'.W0) {a : Addr} {bs : List Addr} {w : Own} (r : OwnR K Z F H a bs w) : OwnR K Z' F H a bs w := by
  cases w with
  | tk kvs =>
    obtain ⟨rfl, xs, h1, h2⟩ := r
    exact ⟨rfl, xs, by rw [← hP, ← hW]; exact h1, h2⟩
  | kk ds =>
    obtain ⟨rfl, xs, h1, h2⟩ := r
    exact ⟨rfl, xs, by rw [← hP, ← hW]; exact h1, h2⟩
  | mt rows => exact r
  | ins p c ds ls => exact ⟨fun i e => by rw [← h9]; exact r.1 i e, r.2⟩
theorem DicsOk.castZ {Z' : Zx T} {g2 : Gx Z'} (hP : Z.P = Z'.P) (hW : Z.w = Z'.w) (h9 : Z.W0 = Z'.W0) (h0 : ∀ x, Z.H0 x = none → Z'.H0 x = none) (hp : ∀ x, g.Pr x = none → g2.Pr x = none) (d : DicsOk K g F env σ H) : DicsOk K g2 F env σ H := by
  obtain ⟨B, h1, h2⟩ := d
  refine ⟨B, fun i w e => let ⟨a, z1, z2⟩ := h1 i w e; ⟨a, z1, z2.rel.castZ hP hW h9, fun x hx => ?_⟩, h2⟩
  obtain ⟨y1, y2, y3, y4⟩ := z2.out x hx
  exact ⟨y1, h0 x y2, hp x y3, y4⟩
theorem OwnAt.keep {a : Addr} {bs : List Addr} {w : Own} (r : OwnAt K g F H a bs w) (e : Ex F F') (hp : ∀ x φ, H x = some (.ext φ) → g.Pr x = none → g'.Pr x = none) (hk : ∀ x φ, H x = some (.ext φ) → F x = none → F' x = none ∧ H' x = H x) : OwnAt K g' F' H' a bs w where
  rel := r.rel.keep e fun x hx => by
    obtain ⟨z1, _, _, φ, z4⟩ := r.out x hx
    exact (hk x φ z4 z1).2
  out := fun x hx => by
    obtain ⟨z1, z2, z3, φ, z4⟩ := r.out x hx
    obtain ⟨y1, y2⟩ := hk x φ z4 z1
    exact ⟨y1, z2, hp x φ z4 z3, φ, y2.trans z4⟩
theorem DicsB.keep {B : Nat → List Addr} (d : DicsB K g F env σ H B) (e : Ex F F') (hp : ∀ x φ, H x = some (.ext φ) → g.Pr x = none → g'.Pr x = none) (hk : ∀ x φ, H x = some (.ext φ) → F x = none → F' x = none ∧ H' x = H x) : DicsB K g' F' env σ H' B :=
  ⟨fun i w hw => let ⟨a, z1, z2⟩ := d.at_ i w hw; ⟨a, z1, z2.keep e hp hk⟩, d.sep⟩
theorem DicsOk.keep (d : DicsOk K g F env σ H) (e : Ex F F') (hp : ∀ x φ, H x = some (.ext φ) → g.Pr x = none → g'.Pr x = none) (hk : ∀ x φ, H x = some (.ext φ) → F x = none → F' x = none ∧ H' x = H x) : DicsOk K g' F' env σ H' := by
  obtain ⟨B, h⟩ := d
  exact ⟨B, h.keep e hp hk⟩
/-- no thing of one's own stands here -/
theorem DicsB.there {B : Nat → List Addr} (d : DicsB K g F env σ H B) {j : Nat} {w : Own} {b x : Addr} (h1 : env[j]? = some (.dic w)) (h2 : σ[j]? = some (some (.ref b))) (hx : x ∈ b :: B j) : F x = none ∧ g.H0 x = none ∧ g.Pr x = none ∧ ∃ φ, H x = some (.ext φ) := by
  obtain ⟨a, z1, z2⟩ := d.at_ j w h1
  rw [h2] at z1
  cases z1
  exact z2.out x hx
theorem DicsOk.none (h : ∀ (i : Nat) (w : Own), env[i]? ≠ some (.dic w)) : DicsOk K g F env σ H := ⟨fun _ => [], fun i w e => absurd e (h i w), fun i _ w _ _ _ e => absurd e (h i w)⟩
theorem DicsOk.setE (d : DicsOk K g F env σ H) {i : Nat} {x : SD} (hx : ∀ w, x ≠ .dic w) : DicsOk K g F (env.set i x) σ H := by
  have old : ∀ {j : Nat} {w : Own}, (env.set i x)[j]? = some (.dic w) → env[j]? = some (.dic w) := fun {j w} h => by
    rw [List.getElem?_set] at h
    by_cases e : i = j
    · rw [if_pos e] at h
      split at h
      · exact absurd (Option.some.inj h) (hx w)
      · cases h
    · rwa [if_neg e] at h
  obtain ⟨B, h1, h2⟩ := d
  exact ⟨B, fun j w h => h1 j w (old h), fun j l w w' a b e1 e2 => h2 j l w w' a b (old e1) (old e2)⟩
theorem DicsOk.set (d : DicsOk K g F env σ H) {i : Nat} {x : SD} {v : Option V} (hx : ∀ w, x ≠ .dic w) : DicsOk K g F (env.set i x) (σ.set i v) H := by
  have ne : ∀ {j : Nat} {w : Own}, (env.set i x)[j]? = some (.dic w) → i ≠ j := fun {j w} h e => by
    rw [List.getElem?_set, if_pos e] at h
    split at h
    · exact absurd (Option.some.inj h) (hx w)
    · cases h
  have st : ∀ {j : Nat}, i ≠ j → (σ.set i v)[j]? = σ[j]? := fun n => List.getElem?_set_ne n
  obtain ⟨B, h1, h2⟩ := d.setE (i := i) hx
  exact ⟨B, fun j w h => let ⟨a, z1, z2⟩ := h1 j w h; ⟨a, by rw [st (ne h)]; exact z1, z2⟩, fun j l w w' a b e1 e2 e3 e4 => h2 j l w w' a b e1 e2 (by rw [← st (ne e1)]; exact e3) (by rw [← st (ne e2)]; exact e4)⟩
end
/-- an object that was there: as it was, or a table with more in it -/
def Sty (o : HO) (x : Option HO) : Prop := x = some o ∨ ∃ ps more, o = .tbl ps ∧ x = some (.tbl (ps ++ more))
theorem Sty.same {o : HO} {x : Option HO} (h : Sty o x) (n : ∀ ps, o ≠ .tbl ps) : x = some o := by
  rcases h with h | ⟨ps, _, e, _⟩
  · exact h
  · exact absurd e (n ps)
theorem Sty.lst {vs : List V} {x : Option HO} (h : Sty (.lst vs) x) : x = some (.lst vs) := h.same fun _ z => by cases z
theorem Sty.ext {f : Heap → Prop} {x : Option HO} (h : Sty (.ext f) x) : x = some (.ext f) := h.same fun _ z => by cases z
theorem Sty.there {o : HO} {x : Option HO} (h : Sty o x) : ∃ u, x = some u := by
  rcases h with h | ⟨ps, m, _, h⟩
  · exact ⟨_, h⟩
  · exact ⟨_, h⟩
theorem Sty.trans {o : HO} {x y : Option HO} (h : Sty o x) (k : ∀ u, x = some u → Sty u y) : Sty o y := by
  rcases h with h | ⟨ps, m, e, h⟩
  · exact k _ h
  · rcases k _ h with z | ⟨ps', m', e', z⟩
    · exact .inr ⟨ps, m, e, z⟩
    · cases e'
      exact .inr ⟨ps, m ++ m', e, by rw [z, Array.append_assoc]⟩
/-- what was there stays, but where N says no; the tables are right -/
structure Frm (T : List (Addr × Str)) (H0 : Hp) (N : Addr → Prop) (H : Hp) : Prop where
  stay : ∀ a o, H0 a = some o → N a → Sty o (H a)
  tab : LamX.Tabs T H
section
variable {H0 H H' : Hp} {N N' : Addr → Prop}
theorem Frm.new (f : Frm T H0 N H) {p : Addr} {o : HO} (h : H p = none) : Frm T H0 N (upd H p o) where
  stay := fun a u e n => by
    have z := f.stay a u e n
    obtain ⟨w, hw⟩ := z.there
    rw [upd_ne (ne_of_none hw h)]
    exact z
  tab := f.tab.ext fun b u e => by rw [upd_ne (ne_of_none e h)]; exact e
theorem codeO_lst {c : Addr} {q : Str} {vs : List V} : LamX.CodeO c q ≠ .lst vs := fun z => by
  unfold LamX.CodeO at z
  cases z
theorem Frm.putO (f : Frm T H0 N H) {a : Addr} {o0 o1 : HO} (h : H a = some o0) (t1 : ∀ ps, o0 ≠ .tbl ps) (t2 : ∀ q, o0 ≠ LamX.CodeO a q) (n : ∀ o, H0 a = some o → ¬ N a) : Frm T H0 N (upd H a o1) where
  stay := fun b u e m => by
    have ne : b ≠ a := fun z => by
      subst z
      exact n u e m
    rw [upd_ne ne]
    exact f.stay b u e m
  tab := fun p hp => by
    obtain ⟨ps, h1, h2, h3⟩ := f.tab p hp
    have n1 : p.1 ≠ a := fun z => by rw [z, h] at h1; exact t1 _ (Option.some.inj h1)
    refine ⟨ps, by rw [upd_ne n1]; exact h1, h2, fun pos cv hc => ?_⟩
    obtain ⟨c, e, e2⟩ := h3 pos cv hc
    have n2 : c ≠ a := fun z => by rw [z, h] at e2; exact t2 _ (Option.some.inj e2)
    exact ⟨c, e, by rw [upd_ne n2]; exact e2⟩
theorem Frm.put (f : Frm T H0 N H) {a : Addr} {vs ys : List V} (h : H a = some (.lst vs)) (n : ∀ o, H0 a = some o → ¬ N a) : Frm T H0 N (upd H a (.lst ys)) := f.putO h (fun _ z => by cases z) (fun _ z => codeO_lst z.symm) n
theorem Frm.trans (f : Frm T H0 N H) (g : Frm T H N' H') (n : ∀ a o, H0 a = some o → N a → N' a) : Frm T H0 N H' :=
  ⟨fun a o e m => (f.stay a o e m).trans fun u hu => g.stay a u hu (n a o e m), g.tab⟩
theorem Frm.refl (t : LamX.Tabs T H) : Frm T H N H := ⟨fun _ _ e _ => .inl e, t⟩
theorem Frm.weak (f : Frm T H0 N H) (n : ∀ a o, H0 a = some o → N' a → N a) : Frm T H0 N' H := ⟨fun a o e m => f.stay a o e (n a o e m), f.tab⟩
end
/-- what never changes has grown; no table is among it -/
def OldF (F0 F : Hp) : Prop := Ex F0 F ∧ ∀ a ps, F a ≠ some (.tbl ps)
theorem OldF.new {F0 F : Hp} (h : OldF F0 F) {p : Addr} {o : HO} (hp : F p = none) (ho : ∀ ps, o ≠ .tbl ps) : OldF F0 (upd F p o) :=
  ⟨h.1.trans (Ex.new hp), fun a ps e => by
    by_cases z : a = p
    · subst z
      rw [upd_same] at e
      exact ho ps (Option.some.inj e)
    · rw [upd_ne z] at e
      exact h.2 a ps e⟩
structure Ok (K : PySem.W.Frag) (g : Gx Z) (F : Hp) (env : List SD) (σ : L2.St) (H : Hp) : Prop where
  len : env.length = σ.length
  fh : Ex F H
  dat : ∀ (i : Nat) (d : PyData), env[i]? = some (.dat d) → ∃ v, σ[i]? = some (some v) ∧ DR K F v d
  cel : ∀ (i : Nat) (p : Bool) (xs : List PyData), env[i]? = some (.cel p xs) → ∃ a vs, σ[i]? = some (some (.ref a)) ∧ F a = none ∧ H a = some (.lst vs) ∧ DRs K F vs xs ∧ (p = true → g.A0 i = some a) ∧ (p = false → g.H0 a = none)
  sep : ∀ (i j : Nat) (p q : Bool) (xs ys : List PyData) (a : Addr), env[i]? = some (.cel p xs) → env[j]? = some (.cel q ys) → σ[i]? = some (some (.ref a)) → σ[j]? = some (some (.ref a)) → i = j
  pin : ∀ (i : Nat) (a : Addr), g.A0 i = some a → ∃ xs, env[i]? = some (.cel true xs)
  frame : Frm T g.H0 (fun a => ∀ i, g.A0 i ≠ some a) H
  newF : ∀ (a : Addr) (o : HO), F a = some o → g.F0 a = some o ∨ g.H0 a = none
  oldF : OldF g.F0 F
  prot : ∀ (a : Addr) (o : HO), g.Pr a = some o → H a = some o ∧ F a = none ∧ ∀ (j : Nat) (p : Bool) (ys : List PyData), env[j]? = some (.cel p ys) → σ[j]? ≠ some (some (.ref a))
  dic : DicsOk K g F env σ H
section
variable {K : PySem.W.Frag} {g : Gx Z} {F F' : Hp} {env : List SD} {σ : L2.St} {H : Hp}

theorem Ok.fresh0 (k : Ok K g F env σ H) {p : Addr} (h : H p = none) : g.H0 p = none := by
  cases e : g.H0 p with
  | none => rfl
  | some o =>
    by_cases q : ∃ i, g.A0 i = some p
    · obtain ⟨i, hi⟩ := q
      obtain ⟨xs, hx⟩ := k.pin i p hi
      obtain ⟨a, vs, _, _, h2, _, h3, _⟩ := k.cel i true xs hx
      have h3 := h3 rfl
      rw [hi] at h3
      cases h3
      rw [h] at h2
      cases h2
    · obtain ⟨u, z⟩ := (k.frame.stay p o e fun i hi => q ⟨i, hi⟩).there
      rw [h] at z
      cases z
theorem fnone (e : Ex F H) {p : Addr} (h : H p = none) : F p = none := by
  cases q : F p with
  | none => rfl
  | some o =>
    rw [e p o q] at h
    cases h
theorem ex_both (e : Ex F H) {p : Addr} {o : HO} (h : H p = none) : Ex (upd F p o) (upd H p o) := fun b u q => by
  by_cases hb : b = p
  · subst hb
    rw [upd_same] at q ⊢
    exact q
  · rw [upd_ne hb] at q ⊢
    exact e b u q
/-- a new thing that never changes -/
theorem Ok.alloc (k : Ok K g F env σ H) {p : Addr} {o : HO} (h : H p = none) (ho : ∀ ps, o ≠ .tbl ps := by intro _ z; cases z) : Ok K g (upd F p o) env σ (upd H p o) where
  len := k.len
  fh := ex_both k.fh h
  dat := fun i d e => by
    obtain ⟨v, h1, h2⟩ := k.dat i d e
    exact ⟨v, h1, h2.mono (Ex.new (fnone k.fh h))⟩
  cel := fun i q xs e => by
    obtain ⟨a, vs, h1, h2, h3, h4, h5⟩ := k.cel i q xs e
    have ne : a ≠ p := ne_of_none h3 h
    exact ⟨a, vs, h1, by rw [upd_ne ne]; exact h2, by rw [upd_ne ne]; exact h3, h4.mono (Ex.new (fnone k.fh h)), h5⟩
  sep := k.sep
  pin := k.pin
  frame := k.frame.new h
  newF := fun a u e => by
    by_cases hb : a = p
    · subst hb
      exact .inr (k.fresh0 h)
    · rw [upd_ne hb] at e
      exact k.newF a u e
  oldF := k.oldF.new (fnone k.fh h) ho
  prot := fun a u e => by
    obtain ⟨z1, z2, z3⟩ := k.prot a u e
    have ne : a ≠ p := ne_of_none z1 h
    exact ⟨by rw [upd_ne ne]; exact z1, by rw [upd_ne ne]; exact z2, z3⟩
  dic := k.dic.keep (Ex.new (fnone k.fh h)) (fun _ _ _ z => z) fun a _ h1 h2 => by
    have ne : a ≠ p := ne_of_none h1 h
    exact ⟨by rw [upd_ne ne]; exact h2, upd_ne ne⟩
/-- a new thing of no name yet -/
theorem Ok.extra (k : Ok K g F env σ H) {p : Addr} {o : HO} (h : H p = none) : Ok K g F env σ (upd H p o) where
  len := k.len
  fh := fun a u e => by
    have q := k.fh a u e
    rw [upd_ne (ne_of_none q h)]
    exact q
  dat := k.dat
  cel := fun i q xs e => by
    obtain ⟨a, vs, h1, h2, h3, h4, h5⟩ := k.cel i q xs e
    have ne : a ≠ p := ne_of_none h3 h
    exact ⟨a, vs, h1, h2, by rw [upd_ne ne]; exact h3, h4, h5⟩
  sep := k.sep
  pin := k.pin
  frame := k.frame.new h
  newF := k.newF
  oldF := k.oldF
  prot := fun a u e => by
    obtain ⟨z1, z2, z3⟩ := k.prot a u e
    have ne : a ≠ p := ne_of_none z1 h
    exact ⟨by rw [upd_ne ne]; exact z1, z2, z3⟩
  dic := k.dic.keep (Ex.refl F) (fun _ _ _ z => z) fun a xs h1 h2 => ⟨h2, upd_ne (ne_of_none h1 h)⟩
theorem get_set {α : Type} {l : List α} {i j : Nat} {x y : α} (h : (l.set i x)[j]? = some y) : (i = j ∧ y = x) ∨ (i ≠ j ∧ l[j]? = some y) := by
  rw [List.getElem?_set] at h
  by_cases e : i = j
  · rw [if_pos e] at h
    split at h
    · exact .inl ⟨e, (Option.some.inj h).symm⟩
    · cases h
  · rw [if_neg e] at h
    exact .inr ⟨e, h⟩
theorem set_ne {α : Type} {l : List α} {i j : Nat} {x : α} (h : i ≠ j) : (l.set i x)[j]? = l[j]? := List.getElem?_set_ne h
theorem set_eq {α : Type} {l : List α} {i : Nat} {x y : α} (h : l[i]? = some y) : (l.set i x)[i]? = some x := by
  obtain ⟨h1, _⟩ := List.getElem?_eq_some_iff.mp h
  exact List.getElem?_set_self h1
/-- a slot that is no parameter's cell -/
def NoPar (env : List SD) (i : Nat) : Prop := ∀ xs, env[i]? ≠ some (.cel true xs)
/-- a name gets a datum -/
theorem Ok.setD (k : Ok K g F env σ H) {i : Nat} {d : PyData} {v : V} (hp : NoPar env i) (h : DR K F v d) : Ok K g F (env.set i (.dat d)) (σ.set i (some v)) H where
  len := by simp [k.len]
  fh := k.fh
  dat := fun j e hj => by
    rcases get_set hj with ⟨rfl, q⟩ | ⟨n, q⟩
    · cases q
      have hl : i < σ.length := by
        obtain ⟨h1, _⟩ := List.getElem?_eq_some_iff.mp hj
        rw [List.length_set, k.len] at h1
        exact h1
      exact ⟨v, List.getElem?_set_self hl, h⟩
    · rw [set_ne n]
      exact k.dat j e q
  cel := fun j q xs hj => by
    rcases get_set hj with ⟨_, q⟩ | ⟨n, q⟩
    · cases q
    · rw [set_ne n]
      exact k.cel j _ xs q
  sep := fun a b p q xs ys c h1 h2 h3 h4 => by
    rcases get_set h1 with ⟨_, e⟩ | ⟨n1, e1⟩
    · cases e
    rcases get_set h2 with ⟨_, e⟩ | ⟨n2, e2⟩
    · cases e
    rw [set_ne n1] at h3
    rw [set_ne n2] at h4
    exact k.sep a b p q xs ys c e1 e2 h3 h4
  pin := fun j a e => by
    obtain ⟨xs, q⟩ := k.pin j a e
    have n : i ≠ j := fun z => by subst z; exact hp xs q
    exact ⟨xs, by rw [set_ne n]; exact q⟩
  frame := k.frame
  newF := k.newF
  oldF := k.oldF
  prot := fun a u e => by
    obtain ⟨z1, z2, z3⟩ := k.prot a u e
    refine ⟨z1, z2, fun j p ys hj => ?_⟩
    rcases get_set hj with ⟨_, q⟩ | ⟨n, q⟩
    · cases q
    · rw [set_ne n]
      exact z3 j p ys q
  dic := k.dic.set fun _ z => by cases z
/-- a name gets a new cell of its own -/
theorem Ok.setC (k : Ok K g F env σ H) {i : Nat} {xs : List PyData} {a : Addr} {vs : List V} (hp : NoPar env i) (hF : F a = none) (hH : H a = some (.lst vs)) (h : DRs K F vs xs) (h0 : g.H0 a = none) (hpr : g.Pr a = none)
    (nw : ∀ (j : Nat) (p : Bool) (ys : List PyData), env[j]? = some (.cel p ys) → σ[j]? ≠ some (some (.ref a))) : Ok K g F (env.set i (.cel false xs)) (σ.set i (some (.ref a))) H where
  len := by simp [k.len]
  fh := k.fh
  dat := fun j e hj => by
    rcases get_set hj with ⟨_, q⟩ | ⟨n, q⟩
    · cases q
    · rw [set_ne n]
      exact k.dat j e q
  cel := fun j q ys hj => by
    rcases get_set hj with ⟨rfl, q⟩ | ⟨n, q⟩
    · cases q
      have hl : i < σ.length := by
        obtain ⟨h1, _⟩ := List.getElem?_eq_some_iff.mp hj
        rw [List.length_set, k.len] at h1
        exact h1
      exact ⟨a, vs, List.getElem?_set_self hl, hF, hH, h, (fun z => by cases z), fun _ => h0⟩
    · rw [set_ne n]
      exact k.cel j _ ys q
  sep := fun j l p q us ys c h1 h2 h3 h4 => by
    rcases get_set h1 with ⟨e1, _⟩ | ⟨n1, e1⟩
    · rcases get_set h2 with ⟨e2, _⟩ | ⟨n2, e2⟩
      · exact e1.symm.trans e2
      · rcases get_set h3 with ⟨_, e3⟩ | ⟨n3, _⟩
        · cases e3
          rw [set_ne n2] at h4
          exact absurd h4 (nw l q ys e2)
        · exact absurd e1 n3
    · rcases get_set h2 with ⟨e2, _⟩ | ⟨n2, e2⟩
      · rcases get_set h4 with ⟨_, e3⟩ | ⟨n3, _⟩
        · cases e3
          rw [set_ne n1] at h3
          exact absurd h3 (nw j p us e1)
        · exact absurd e2 n3
      · rw [set_ne n1] at h3
        rw [set_ne n2] at h4
        exact k.sep j l p q us ys c e1 e2 h3 h4
  pin := fun j b e => by
    obtain ⟨ys, q⟩ := k.pin j b e
    have n : i ≠ j := fun z => by subst z; exact hp ys q
    exact ⟨ys, by rw [set_ne n]; exact q⟩
  frame := k.frame
  newF := k.newF
  oldF := k.oldF
  prot := fun b u e => by
    obtain ⟨z1, z2, z3⟩ := k.prot b u e
    refine ⟨z1, z2, fun j p ys hj => ?_⟩
    rcases get_set hj with ⟨rfl, q⟩ | ⟨n, q⟩
    · intro z
      rcases get_set z with ⟨_, y⟩ | ⟨n, _⟩
      · cases y
        rw [hpr] at e
        cases e
      · exact n rfl
    · rw [set_ne n]
      exact z3 j p ys q
  dic := k.dic.set fun _ z => by cases z
/-- a name is forgotten (its slot may hold anything) -/
theorem Ok.setU (k : Ok K g F env σ H) {i : Nat} {o : Option V} (hp : NoPar env i) : Ok K g F (env.set i .un) (σ.set i o) H where
  len := by simp [k.len]
  fh := k.fh
  dat := fun j e hj => by
    rcases get_set hj with ⟨_, q⟩ | ⟨n, q⟩
    · cases q
    · rw [set_ne n]
      exact k.dat j e q
  cel := fun j q ys hj => by
    rcases get_set hj with ⟨_, q⟩ | ⟨n, q⟩
    · cases q
    · rw [set_ne n]
      exact k.cel j _ ys q
  sep := fun a b p q xs ys c h1 h2 h3 h4 => by
    rcases get_set h1 with ⟨_, e⟩ | ⟨n1, e1⟩
    · cases e
    rcases get_set h2 with ⟨_, e⟩ | ⟨n2, e2⟩
    · cases e
    rw [set_ne n1] at h3
    rw [set_ne n2] at h4
    exact k.sep a b p q xs ys c e1 e2 h3 h4
  pin := fun j b e => by
    obtain ⟨ys, q⟩ := k.pin j b e
    have n : i ≠ j := fun z => by subst z; exact hp ys q
    exact ⟨ys, by rw [set_ne n]; exact q⟩
  frame := k.frame
  newF := k.newF
  oldF := k.oldF
  prot := fun a u e => by
    obtain ⟨z1, z2, z3⟩ := k.prot a u e
    refine ⟨z1, z2, fun j p ys hj => ?_⟩
    rcases get_set hj with ⟨_, q⟩ | ⟨n, q⟩
    · cases q
    · rw [set_ne n]
      exact z3 j p ys q
  dic := k.dic.set fun _ z => by cases z
/-- a cell's content is changed -/
theorem Ok.write (k : Ok K g F env σ H) {i : Nat} {p : Bool} {xs ys : List PyData} {a : Addr} {vs : List V} (he : env[i]? = some (.cel p xs)) (hs : σ[i]? = some (some (.ref a))) (h : DRs K F vs ys) :
    Ok K g F (env.set i (.cel p ys)) σ (upd H a (.lst vs)) := by
  obtain ⟨a', vs0, h1, h2, h3, h4, h5, h6⟩ := k.cel i p xs he
  rw [hs] at h1
  cases h1
  refine ⟨by simp [k.len], fun b u q => ?_, fun j e hj => ?_, fun j q us hj => ?_, fun j l q r us ws c h1 h2 h3 h4 => ?_, fun j b e => ?_, k.frame.put h3 (fun o e n => ?_), k.newF, k.oldF, fun b u e => ?_, ((k.dic.setE (i := i) (x := .cel p ys) fun _ z => by cases z).keep (Ex.refl F) (fun _ _ _ z => z) fun b _ e n => ⟨n, upd_ne fun z => by rw [z, h3] at e; cases e⟩)⟩
  · have ne : b ≠ a := fun z => by rw [z, h2] at q; cases q
    rw [upd_ne ne]
    exact k.fh b u q
  · rcases get_set hj with ⟨_, q⟩ | ⟨n, q⟩
    · cases q
    · exact k.dat j e q
  · rcases get_set hj with ⟨rfl, q⟩ | ⟨n, q⟩
    · cases q
      exact ⟨a, vs, hs, h2, upd_same, h, h5, h6⟩
    · obtain ⟨b, ws, z1, z2, z3, z4, z5⟩ := k.cel j _ us q
      have ne : b ≠ a := fun z => by
        subst z
        exact n (k.sep i j _ _ _ _ b he q hs z1)
      exact ⟨b, ws, z1, z2, by rw [upd_ne ne]; exact z3, z4, z5⟩
  · have f : ∀ {j : Nat} {q : Bool} {us : List PyData}, (env.set i (SD.cel p ys))[j]? = some (.cel q us) → ∃ q' us', env[j]? = some (.cel q' us') := fun {j q us} z => by
      rcases get_set z with ⟨rfl, _⟩ | ⟨_, z⟩
      · exact ⟨_, _, he⟩
      · exact ⟨_, _, z⟩
    obtain ⟨_, _, f1⟩ := f h1
    obtain ⟨_, _, f2⟩ := f h2
    exact k.sep j l _ _ _ _ c f1 f2 h3 h4
  · obtain ⟨us, q⟩ := k.pin j b e
    by_cases n : i = j
    · subst n
      rw [he] at q
      cases q
      exact ⟨ys, set_eq he⟩
    · exact ⟨us, by rw [set_ne n]; exact q⟩
  · cases p with
    | true => exact n i (h5 rfl)
    | false =>
      rw [h6 rfl] at e
      cases e
  · obtain ⟨z1, z2, z3⟩ := k.prot b u e
    have ne : b ≠ a := fun z => by
      subst z
      exact z3 i p xs he hs
    refine ⟨by rw [upd_ne ne]; exact z1, z2, fun j q us hj => ?_⟩
    rcases get_set hj with ⟨rfl, _⟩ | ⟨_, z⟩
    · exact z3 _ p xs he
    · exact z3 j q us z
/-- an own cell becomes a datum -/
theorem Ok.freeze (k : Ok K g F env σ H) {i : Nat} {xs : List PyData} (he : env[i]? = some (.cel false xs)) : ∃ F', Ex F F' ∧ Ok K g F' (env.set i (.dat (.list xs))) σ H := by
  obtain ⟨a, vs, h1, h2, h3, h4, h5, h6⟩ := k.cel i false xs he
  have h6 := h6 rfl
  have ex : Ex F (upd F a (.lst vs)) := Ex.new h2
  refine ⟨upd F a (.lst vs), ex, by simp [k.len], fun b u q => ?_, fun j e hj => ?_, fun j q us hj => ?_, fun j l q r us ws c z1 z2 z3 z4 => ?_, fun j b e => ?_, k.frame, fun b u q => ?_, k.oldF.new h2 (fun _ z => by cases z), fun b u e => ?_, ((k.dic.setE (i := i) (x := .dat (.list xs)) fun _ z => by cases z).keep ex (fun _ _ _ z => z) fun b ys e n => ⟨by rw [upd_ne fun z => by rw [z, h3] at e; cases e]; exact n, rfl⟩)⟩
  · by_cases z : b = a
    · subst z
      rw [upd_same] at q
      exact h3.trans q
    · rw [upd_ne z] at q
      exact k.fh b u q
  · rcases get_set hj with ⟨rfl, q⟩ | ⟨n, q⟩
    · cases q
      exact ⟨_, h1, .lst (RdL.of upd_same) (h4.mono ex)⟩
    · obtain ⟨v, z1, z2⟩ := k.dat j e q
      exact ⟨v, z1, z2.mono ex⟩
  · rcases get_set hj with ⟨_, q⟩ | ⟨n, q⟩
    · cases q
    · obtain ⟨b, ws, z1, z2, z3, z4, z5⟩ := k.cel j _ us q
      have ne : b ≠ a := fun z => by
        subst z
        exact n (k.sep i j _ _ _ _ b he q h1 z1)
      exact ⟨b, ws, z1, by rw [upd_ne ne]; exact z2, z3, z4.mono ex, z5⟩
  · rcases get_set z1 with ⟨_, e⟩ | ⟨n1, e1⟩
    · cases e
    rcases get_set z2 with ⟨_, e⟩ | ⟨n2, e2⟩
    · cases e
    exact k.sep j l q r us ws c e1 e2 z3 z4
  · obtain ⟨ys, q⟩ := k.pin j b e
    have n : i ≠ j := fun z => by subst z; rw [he] at q; cases q
    exact ⟨ys, by rw [set_ne n]; exact q⟩
  · by_cases z : b = a
    · subst z
      exact .inr h6
    · rw [upd_ne z] at q
      exact k.newF b u q
  · obtain ⟨z1, z2, z3⟩ := k.prot b u e
    have ne : b ≠ a := fun z => by
      subst z
      exact z3 i false xs he h1
    refine ⟨z1, by rw [upd_ne ne]; exact z2, fun j q us hj => ?_⟩
    rcases get_set hj with ⟨_, z⟩ | ⟨_, z⟩
    · cases z
    · exact z3 j q us z
end
end DL

namespace DL
variable {T : List (PySem.Addr × PySem.Str)} {Z : Zx T}
open PySem PySem.Spec PyProof.Rows L2
open Evl (Ex)

/-- by a truth -/
def bIf (b : Bool) (p q : Prop) : Prop := match b with
  | true => p
  | false => q
theorem bIf_t {p q : Prop} : bIf true p q = p := rfl
theorem bIf_f {p q : Prop} : bIf false p q = q := rfl
/-- a datum that is a truth -/
def bT (d : PyData) (K : Bool → Prop) : Prop := match d with
  | .bool b => K b
  | _ => False
theorem bT_inv {d : PyData} {K : Bool → Prop} (h : bT d K) : ∃ b, d = .bool b ∧ K b := by
  cases d <;> first | exact ⟨_, rfl, h⟩ | exact h.elim
theorem bIf_and {b : Bool} {q : Prop} (h : bIf b q False) : b = true ∧ q := by
  cases b
  · exact h.elim
  · exact ⟨rfl, h⟩
abbrev DE := List SD → (PyData → List SD → Prop) → Prop
abbrev DX := List SD → (SD → List SD → Prop) → Prop
abbrev DT := List SD → (Bool → List SD → Prop) → Prop
abbrev DA := List SD → (List PyData → List SD → Prop) → Prop
/-- a result: a datum, or a new cell that no name holds yet -/
def ResOk (K : PySem.W.Frag) (g : Gx Z) (F : Hp) (env : List SD) (σ : L2.St) (H : Hp) (v : V) : SD → Prop
  | .un => False
  | .dat d => DR K F v d
  | .cel _ xs => ∃ a vs, v = .ref a ∧ F a = none ∧ H a = some (.lst vs) ∧ DRs K F vs xs ∧ g.H0 a = none ∧ g.Pr a = none ∧ ∀ (j : Nat) (p : Bool) (ys : List PyData), env[j]? = some (.cel p ys) → σ[j]? ≠ some (some (.ref a))
  | .dic _ => False
def liftE (K : PySem.W.Frag) (Z : Zx T) (w : DE) : TE := fun σ H Q => ∃ (g : Gx Z) (F : Hp) (env : List SD) (P : PyData → List SD → Prop), Ok K g F env σ H ∧ w env P ∧
  ∀ d env' v F' H', P d env' → Ex F F' → Ok K g F' env' σ H' → DR K F' v d → Q v H'
def liftX (K : PySem.W.Frag) (Z : Zx T) (w : DX) : TE := fun σ H Q => ∃ (g : Gx Z) (F : Hp) (env : List SD) (P : SD → List SD → Prop), Ok K g F env σ H ∧ w env P ∧
  ∀ r env' v F' H', P r env' → Ex F F' → Ok K g F' env' σ H' → ResOk K g F' env' σ H' v r → Q v H'
def liftT (K : PySem.W.Frag) (Z : Zx T) (w : DT) : TT := fun σ H Q => ∃ (g : Gx Z) (F : Hp) (env : List SD) (P : Bool → List SD → Prop), Ok K g F env σ H ∧ w env P ∧
  ∀ b env' F' H', P b env' → Ex F F' → Ok K g F' env' σ H' → Q b H'
def liftA (K : PySem.W.Frag) (Z : Zx T) (w : DA) : TA := fun σ H Q => ∃ (g : Gx Z) (F : Hp) (env : List SD) (P : List PyData → List SD → Prop), Ok K g F env σ H ∧ w env P ∧
  ∀ ds env' vs F' H', P ds env' → Ex F F' → Ok K g F' env' σ H' → DRs K F' vs ds → Q vs H'
theorem PE.of {X : Cx} {e : Expr} {t t' : TE} (h : PE X e t) (w : ∀ σ H Q, t' σ H Q → t σ H Q) : PE X e t' := ⟨fun pins s σ H Q I q => h.run pins s σ H Q I (w σ H Q q)⟩
theorem PT.of {X : Cx} {e : Expr} {t t' : TT} (h : PT X e t) (w : ∀ σ H Q, t' σ H Q → t σ H Q) : PT X e t' := ⟨fun pins s σ H Q I q => h.run pins s σ H Q I (w σ H Q q)⟩
theorem PW.of {X : Cx} {e : Expr} {t t' : TT} (h : PW X e t) (w : ∀ σ H Q, t' σ H Q → t σ H Q) : PW X e t' := ⟨fun wh pins s σ H Q I q => h.run wh pins s σ H Q I (w σ H Q q)⟩
theorem PA.of {X : Cx} {e : List Expr} {t t' : TA} (h : PA X e t) (w : ∀ σ H Q, t' σ H Q → t σ H Q) : PA X e t' := ⟨fun p pins s σ H Q I q => h.run p pins s σ H Q I (w σ H Q q)⟩
theorem PS.of {X : Cx} {e : Stmt} {t t' : TS} (h : PS X e t) (w : ∀ D σ H, t' D σ H → t D σ H) : PS X e t' := ⟨fun pins s σ H D I q => h.run pins s σ H D I (w D σ H q)⟩
theorem PSs.of {X : Cx} {e : List Stmt} {t t' : TS} (h : PSs X e t) (w : ∀ D σ H, t' D σ H → t D σ H) : PSs X e t' := ⟨fun pins s σ H D I q => h.run pins s σ H D I (w D σ H q)⟩
section
variable {K : PySem.W.Frag} {g : Gx Z} {F F' : Hp} {env : List SD} {σ : L2.St} {H : Hp}
/-- a new cell that no name holds -/
theorem Ok.newCell (k : Ok K g F env σ H) {p : Addr} (h : H p = none) {vs : List V} {xs : List PyData} (r : DRs K F vs xs) :
    Ok K g F env σ (upd H p (.lst vs)) ∧ ResOk K g F env σ (upd H p (.lst vs)) (.ref p) (.cel false xs) := by
  refine ⟨k.extra h, p, vs, rfl, fnone k.fh h, upd_same, r, k.fresh0 h, ?_, fun j q ys e z => ?_⟩
  · cases e : g.Pr p with
    | none => rfl
    | some u =>
      have z := (k.prot p u e).1
      rw [h] at z
      cases z
  obtain ⟨a, ws, h1, _, h3, _⟩ := k.cel j q ys e
  rw [z] at h1
  cases h1
  rw [h] at h3
  cases h3
/-- such a cell becomes a datum -/
theorem Ok.freezeR (k : Ok K g F env σ H) {v : V} {p : Bool} {xs : List PyData} (h : ResOk K g F env σ H v (.cel p xs)) : ∃ F', Ex F F' ∧ Ok K g F' env σ H ∧ DR K F' v (.list xs) ∧ DR K F' v (.dict [(.none, .list xs)]) := by
  obtain ⟨a, vs, rfl, hF, hH, r, h0, hpr, nw⟩ := h
  have ex : Ex F (upd F a (.lst vs)) := Ex.new hF
  refine ⟨upd F a (.lst vs), ex, ⟨k.len, fun b u q => ?_, fun i d e => ?_, fun i q ys e => ?_, k.sep, k.pin, k.frame, fun b u q => ?_, k.oldF.new hF (fun _ z => by cases z), fun b u e => ?_, (k.dic.keep ex (fun _ _ _ z => z) fun b ys e n => ⟨by rw [upd_ne fun z => by rw [z, hH] at e; cases e]; exact n, rfl⟩)⟩, .lst (RdL.of upd_same) (r.mono ex), .row upd_same (r.mono ex)⟩
  · by_cases z : b = a
    · subst z
      rw [upd_same] at q
      exact hH.trans q
    · rw [upd_ne z] at q
      exact k.fh b u q
  · obtain ⟨v, z1, z2⟩ := k.dat i d e
    exact ⟨v, z1, z2.mono ex⟩
  · obtain ⟨b, ws, z1, z2, z3, z4, z5⟩ := k.cel i q ys e
    have ne : b ≠ a := fun z => by
      subst z
      exact nw i q ys e z1
    exact ⟨b, ws, z1, by rw [upd_ne ne]; exact z2, z3, z4.mono ex, z5⟩
  · by_cases z : b = a
    · subst z
      exact .inr h0
    · rw [upd_ne z] at q
      exact k.newF b u q
  · obtain ⟨z1, z2, z3⟩ := k.prot b u e
    have ne : b ≠ a := fun z => by
      subst z
      rw [hpr] at e
      cases e
    exact ⟨z1, by rw [upd_ne ne]; exact z2, z3⟩
theorem Ok.freezeP (k : Ok K g F env σ H) {v : V} {p : Bool} {xs : List PyData} (h : ResOk K g F env σ H v (.cel p xs)) : ∃ F', Ex F F' ∧ Ok K g F' env σ H ∧ DR K F' v (.list xs) := by
  obtain ⟨F', h1, h2, h3, _⟩ := k.freezeR h
  exact ⟨F', h1, h2, h3⟩
/-- a new tuple, a new list that never changes -/
theorem Ok.newTup (k : Ok K g F env σ H) {p : Addr} {o : Obj} (h : H p = none) (ho : PlT o) {vs : List V} {xs : List PyData} (r : DRs K F vs xs) :
    Ex F (upd F p (.frz o (.tup vs))) ∧ Ok K g (upd F p (.frz o (.tup vs))) env σ (upd H p (.frz o (.tup vs))) ∧ DR K (upd F p (.frz o (.tup vs))) (.ref p) (.tuple xs) := by
  have ex : Ex F (upd F p (.frz o (.tup vs))) := Ex.new (fnone k.fh h)
  exact ⟨ex, k.alloc h, .tup (.inl ⟨o, upd_same, ho⟩) (r.mono ex)⟩
theorem Ok.newLst (k : Ok K g F env σ H) {p : Addr} (h : H p = none) {vs : List V} {xs : List PyData} (r : DRs K F vs xs) :
    Ex F (upd F p (.lst vs)) ∧ Ok K g (upd F p (.lst vs)) env σ (upd H p (.lst vs)) ∧ DR K (upd F p (.lst vs)) (.ref p) (.list xs) := by
  have ex : Ex F (upd F p (.lst vs)) := Ex.new (fnone k.fh h)
  exact ⟨ex, k.alloc h, .lst (RdL.of upd_same) (r.mono ex)⟩
theorem drH (k : Ok K g F env σ H) {v : V} {d : PyData} (h : DR K F v d) : DR K H v d := h.mono k.fh
end

section
variable {X : Cx} {a b c e : Expr} {es : List Expr} {pos : Pos} {wa wb wc w : DE} {K : PySem.W.Frag}
abbrev dVar (i : Nat) (env : List SD) (P : PyData → List SD → Prop) : Prop := match env[i]? with
  | some (.dat d) => P d env
  | _ => False
theorem lift_var {i : Nat} {σ : L2.St} {H : Hp} {Q : VK} (h : liftE K Z (dVar i) σ H Q) : tVar i σ H Q := by
  obtain ⟨g, F, env, P, k, w, q⟩ := h
  unfold dVar at w
  split at w
  · rename_i d e
    obtain ⟨v, h1, h2⟩ := k.dat i d e
    exact ⟨v, h1, q d env v F H w (Ex.refl F) k h2⟩
  · exact w.elim
theorem dv (i : Nat) {x : Str} {pos : Pos} (hN : X.N[i]? = some x := by rfl) (hv : Vis X.env.scope x := by first | exact Or.inl rfl | exact Or.inr (Or.inl rfl) | exact Or.inr (Or.inr rfl)) (hd : (x == ("__debug__" : Str)) = false := by decide)
    (hcd : (x == ("__classdict__" : Str)) = false := by decide) : PE X (.Name x pos) (liftE X.K Z (dVar i)) := PE.of (pe_var hN hv hd hcd) fun _ _ _ h => lift_var h
abbrev dC (d : PyData) (env : List SD) (P : PyData → List SD → Prop) : Prop := P d env
theorem lift_c {v : V} {d : PyData} (hv : ∀ F : Hp, DR K F v d) {σ : L2.St} {H : Hp} {Q : VK} (h : liftE K Z (dC d) σ H Q) : tC v σ H Q := by
  obtain ⟨g, F, env, P, k, w, q⟩ := h
  exact q d env v F H w (Ex.refl F) k (hv F)
theorem di {i : Int} {j pos} : PE X (.Constant (.int i) j pos) (liftE X.K Z (dC (.int i))) := PE.of pe_int fun _ _ _ h => lift_c (fun _ => .int i) h
theorem db {i : Bool} {j pos} : PE X (.Constant (.bool i) j pos) (liftE X.K Z (dC (.bool i))) := PE.of pe_bl fun _ _ _ h => lift_c (fun _ => .bl i) h
theorem dn {j pos} : PE X (.Constant .none j pos) (liftE X.K Z (dC .none)) := PE.of pe_non fun _ _ _ h => lift_c (fun _ => .non) h
theorem ds {i : Str} {j pos} : PE X (.Constant (.str i) j pos) (liftE X.K Z (dC (.str i))) := PE.of pe_str fun _ _ _ h => lift_c (fun _ => .str i) h
/-- a module's constant -/
theorem dglob {x : Str} {u : Value} {d : PyData} {pos : Pos} {v : V} (hm : X.mg x = some u) (r : RelV v u) (hd : ∀ F : Hp, DR X.K F v d) (hg : Gl X x := by rfl) (hdb : (x == ("__debug__" : Str)) = false := by decide) : PE X (.Name x pos) (liftE X.K Z (dC d)) :=
  PE.of (pe_glob hg hm r hdb) fun _ _ _ h => lift_c hd h
abbrev D2 := PyData → PyData → (PyData → Prop) → Prop
abbrev dOp (f : D2) (wa wb : DE) (env : List SD) (P : PyData → List SD → Prop) : Prop := wa env fun x env1 => wb env1 fun y env2 => f x y fun z => P z env2
def OpD (K : PySem.W.Frag) (r : R2) (f : D2) : Prop :=
  ∀ (T : List (Addr × Str)) (Z : Zx T) (g : Gx Z) (F : Hp) (env : List SD) (σ : L2.St) (H : Hp) (vx vy : V) (dx dy : PyData) (P : PyData → Prop) (Q : VK), Ok K g F env σ H → DR K F vx dx → DR K F vy dy → f dx dy P →
    (∀ d v F' H', P d → Ex F F' → Ok K g F' env σ H' → DR K F' v d → Q v H') → r vx vy H Q
theorem lift_op {r : R2} {f : D2} (hd : OpD K r f) {σ : L2.St} {H : Hp} {Q : VK} (h : liftE K Z (dOp f wa wb) σ H Q) : tOp r (liftE K Z wa) (liftE K Z wb) σ H Q := by
  obtain ⟨g, F, env, P, k, w, q⟩ := h
  refine ⟨g, F, env, _, k, w, fun d env1 v F1 H1 p e1 k1 r1 => ⟨g, F1, env1, _, k1, p, fun d2 env2 v2 F2 H2 p2 e2 k2 r2 => ?_⟩⟩
  exact hd _ _ g F2 env2 σ H2 v v2 d d2 _ Q k2 (r1.mono e2) r2 p2 fun d3 v3 F3 H3 p3 e3 k3 r3 => q d3 env2 v3 F3 H3 p3 (e1.trans (e2.trans e3)) k3 r3
theorem dop {op : Operator} {r : R2} {f : D2} (ho : OpR X (binaryOp op) r) (hd : OpD X.K r f) (ha : PE X a (liftE X.K Z wa)) (hb : PE X b (liftE X.K Z wb)) : PE X (.BinOp a op b pos) (liftE X.K Z (dOp f wa wb)) :=
  PE.of (pe_op ho ha hb) fun _ _ _ h => lift_op hd h
theorem dcmp {op : CmpOp} {r : R2} {f : D2} (ho : OpR X (compareOp op) r) (hd : OpD X.K r f) (ha : PE X a (liftE X.K Z wa)) (hb : PE X b (liftE X.K Z wb)) (hm : behindInMarks op b = false) : PE X (.Compare a [op] [b] pos) (liftE X.K Z (dOp f wa wb)) :=
  PE.of (pe_cmpR ho ha hb hm) fun _ _ _ h => lift_op hd h
abbrev dTest (w : DE) (env : List SD) (P : Bool → List SD → Prop) : Prop := w env fun d env' => bT d fun b => P b env'
theorem lift_test {t : TE} (ht : ∀ σ H Q, liftE K Z w σ H Q → t σ H Q) {σ : L2.St} {H : Hp} {Q : Bool → Hp → Prop} (h : liftT K Z (dTest w) σ H Q) : tTest t σ H Q := by
  obtain ⟨g, F, env, P, k, w, q⟩ := h
  refine ht _ _ _ ⟨g, F, env, _, k, w, fun d env1 v F1 H1 p e1 k1 r1 => ?_⟩
  obtain ⟨b, rfl, p⟩ := bT_inv p
  cases r1.inv_bool
  exact ⟨_, rfl, q _ env1 F1 H1 p e1 k1⟩
theorem dcmpT {op : CmpOp} {r : R2} {f : D2} (ho : OpR X (compareOp op) r) (hd : OpD X.K r f) (ha : PE X a (liftE X.K Z wa)) (hb : PE X b (liftE X.K Z wb)) (hm : behindInMarks op b = false) : PT X (.Compare a [op] [b] pos) (liftT X.K Z (dTest (dOp f wa wb))) :=
  PT.of (pt_cmpR ho ha hb hm) fun _ _ _ h => lift_test (fun _ _ _ h => lift_op hd h) h
/-- any other expression as a test -/
theorem dtest (h : PE X e (liftE X.K Z w)) (he : ∀ whole, isTrue e X.env whole = (do let v ← whole; standAt e.pos; holding [v] (truthy v)) := by intro _; rfl) : PT X e (liftT X.K Z (dTest w)) :=
  PT.of (pt_val h he) fun _ _ _ q => lift_test (fun _ _ _ h => h) q
/-- a < b < c -/
abbrev dChain (f f' : D2) (wa wb wc : DE) (env : List SD) (P : PyData → List SD → Prop) : Prop := wa env fun x env1 => wb env1 fun y env2 => f x y fun z => bT z fun b => bIf b (wc env2 fun u env3 => f' y u fun z2 => P z2 env3) (P (.bool false) env2)
theorem lift_chain {r r' : R2} {f f' : D2} (hd : OpD K r f) (hd' : OpD K r' f') {σ : L2.St} {H : Hp} {Q : VK} (h : liftE K Z (dChain f f' wa wb wc) σ H Q) : tChain r r' (liftE K Z wa) (liftE K Z wb) (liftE K Z wc) σ H Q := by
  obtain ⟨g, F, env, P, k, w, q⟩ := h
  refine ⟨g, F, env, _, k, w, fun d env1 v F1 H1 p e1 k1 r1 => ⟨g, F1, env1, _, k1, p, fun d2 env2 v2 F2 H2 p2 e2 k2 r2 => ?_⟩⟩
  refine hd _ _ g F2 env2 σ H2 v v2 d d2 _ _ k2 (r1.mono e2) r2 p2 fun d3 v3 F3 H3 p3 e3 k3 r3 => ?_
  obtain ⟨b, rfl, p3⟩ := bT_inv p3
  cases r3.inv_bool
  cases b with
  | true =>
    refine ⟨true, rfl, iteT ⟨g, F3, env2, _, k3, p3, fun d4 env4 v4 F4 H4 p4 e4 k4 r4 => ?_⟩⟩
    exact hd' _ _ g F4 env4 σ H4 v2 v4 d2 d4 _ Q k4 ((r2.mono e3).mono e4) r4 p4 fun d5 v5 F5 H5 p5 e5 k5 r5 => q d5 env4 v5 F5 H5 p5 (e1.trans (e2.trans (e3.trans (e4.trans e5)))) k5 r5
  | false =>
    exact ⟨false, rfl, iteF (q _ env2 _ F3 H3 p3 (e1.trans (e2.trans e3)) k3 (.bl false))⟩
theorem dchain {op op' : CmpOp} {r r' : R2} {f f' : D2} (ho : OpR X (compareOp op) r) (ho' : OpR X (compareOp op') r') (hd : OpD X.K r f) (hd' : OpD X.K r' f') (ha : PE X a (liftE X.K Z wa)) (hb : PE X b (liftE X.K Z wb)) (hc : PE X c (liftE X.K Z wc))
    (hm : lastMarks [op, op'] [b, c] = false := by with_unfolding_all rfl) : PE X (.Compare a [op, op'] [b, c] pos) (liftE X.K Z (dChain f f' wa wb wc)) :=
  PE.of (pe_chain ho ho' ha hb hc hm) fun _ _ _ h => lift_chain hd hd' h
theorem dchainT {op op' : CmpOp} {r r' : R2} {f f' : D2} (ho : OpR X (compareOp op) r) (ho' : OpR X (compareOp op') r') (hd : OpD X.K r f) (hd' : OpD X.K r' f') (ha : PE X a (liftE X.K Z wa)) (hb : PE X b (liftE X.K Z wb)) (hc : PE X c (liftE X.K Z wc))
    (hm : lastMarks [op, op'] [b, c] = false := by with_unfolding_all rfl) : PT X (.Compare a [op, op'] [b, c] pos) (liftT X.K Z (dTest (dChain f f' wa wb wc))) :=
  PT.of (pt_chain ho ho' ha hb hc hm) fun _ _ _ h => lift_test (fun _ _ _ h => lift_chain hd hd' h) h
/-- one place -/
abbrev D1 := PyData → (PyData → Prop) → Prop
abbrev dUn (f : D1) (wa : DE) (env : List SD) (P : PyData → List SD → Prop) : Prop := wa env fun x env1 => f x fun z => P z env1
def UnD (K : PySem.W.Frag) (r : V → Hp → VK → Prop) (f : D1) : Prop :=
  ∀ (T : List (Addr × Str)) (Z : Zx T) (g : Gx Z) (F : Hp) (env : List SD) (σ : L2.St) (H : Hp) (vx : V) (dx : PyData) (P : PyData → Prop) (Q : VK), Ok K g F env σ H → DR K F vx dx → f dx P →
    (∀ d v F' H', P d → Ex F F' → Ok K g F' env σ H' → DR K F' v d → Q v H') → r vx H Q
theorem dun {op : UnaryOp} {r : V → Hp → VK → Prop} {f : D1} (ho : UnR X (unaryOp op) r) (hd : UnD X.K r f) (ha : PE X a (liftE X.K Z wa)) : PE X (.UnaryOp op a pos) (liftE X.K Z (dUn f wa)) :=
  PE.of (pe_un ho ha) fun σ H Q h => by
    obtain ⟨g, F, env, P, k, w, q⟩ := h
    refine ⟨g, F, env, _, k, w, fun d env1 v F1 H1 p e1 k1 r1 => ?_⟩
    exact hd _ _ g F1 env1 σ H1 v d _ Q k1 r1 p fun d3 v3 F3 H3 p3 e3 k3 r3 => q d3 env1 v3 F3 H3 p3 (e1.trans e3) k3 r3
abbrev dAndV (wa wb : DE) (env : List SD) (P : PyData → List SD → Prop) : Prop := wa env fun x env1 => bT x fun b => bIf b (wb env1 P) (P (.bool false) env1)
abbrev dOrV (wa wb : DE) (env : List SD) (P : PyData → List SD → Prop) : Prop := wa env fun x env1 => bT x fun b => bIf b (P (.bool true) env1) (wb env1 P)
abbrev dNotV (wa : DE) (env : List SD) (P : PyData → List SD → Prop) : Prop := wa env fun x env1 => bT x fun b => P (.bool (!b)) env1
variable {rest : List Expr}
theorem done {op : BoolOp} (h : PE X a (liftE X.K Z wa)) : PE X (.BoolOp op [a] pos) (liftE X.K Z wa) := pe_one h
theorem dandV (ha : PE X a (liftE X.K Z wa)) (hb : PE X (.BoolOp .And (b :: rest) pos) (liftE X.K Z wb)) : PE X (.BoolOp .And (a :: b :: rest) pos) (liftE X.K Z (dAndV wa wb)) :=
  PE.of (pe_and ha hb) fun σ H Q h => by
    obtain ⟨g, F, env, P, k, w, q⟩ := h
    refine ⟨g, F, env, _, k, w, fun d env1 v F1 H1 p e1 k1 r1 => ?_⟩
    obtain ⟨b, rfl, p⟩ := bT_inv p
    cases r1.inv_bool
    cases b with
    | true => exact ⟨true, rfl, iteT ⟨g, F1, env1, _, k1, p, fun d2 env2 v2 F2 H2 p2 e2 k2 r2 => q d2 env2 v2 F2 H2 p2 (e1.trans e2) k2 r2⟩⟩
    | false => exact ⟨false, rfl, iteF (q _ env1 _ F1 H1 p e1 k1 (.bl false))⟩
theorem dorV (ha : PE X a (liftE X.K Z wa)) (hb : PE X (.BoolOp .Or (b :: rest) pos) (liftE X.K Z wb)) : PE X (.BoolOp .Or (a :: b :: rest) pos) (liftE X.K Z (dOrV wa wb)) :=
  PE.of (pe_or ha hb) fun σ H Q h => by
    obtain ⟨g, F, env, P, k, w, q⟩ := h
    refine ⟨g, F, env, _, k, w, fun d env1 v F1 H1 p e1 k1 r1 => ?_⟩
    obtain ⟨b, rfl, p⟩ := bT_inv p
    cases r1.inv_bool
    cases b with
    | true => exact ⟨true, rfl, iteT (q _ env1 _ F1 H1 p e1 k1 (.bl true))⟩
    | false => exact ⟨false, rfl, iteF ⟨g, F1, env1, _, k1, p, fun d2 env2 v2 F2 H2 p2 e2 k2 r2 => q d2 env2 v2 F2 H2 p2 (e1.trans e2) k2 r2⟩⟩
theorem dnotV (ha : PE X a (liftE X.K Z wa)) : PE X (.UnaryOp .Not a pos) (liftE X.K Z (dNotV wa)) :=
  PE.of (pe_not ha) fun σ H Q h => by
    obtain ⟨g, F, env, P, k, w, q⟩ := h
    refine ⟨g, F, env, _, k, w, fun d env1 v F1 H1 p e1 k1 r1 => ?_⟩
    obtain ⟨b, rfl, p⟩ := bT_inv p
    cases r1.inv_bool
    exact ⟨_, rfl, q _ env1 _ F1 H1 p e1 k1 (.bl _)⟩
abbrev dAnd (t u : DT) (env : List SD) (P : Bool → List SD → Prop) : Prop := t env fun b env1 => bIf b (u env1 P) (P false env1)
abbrev dOr (t u : DT) (env : List SD) (P : Bool → List SD → Prop) : Prop := t env fun b env1 => bIf b (P true env1) (u env1 P)
abbrev dNot (t : DT) (env : List SD) (P : Bool → List SD → Prop) : Prop := t env fun b env1 => P (!b) env1
variable {t u : DT}
theorem tand1 (ha : PT X a (liftT X.K Z t)) : PW X (.BoolOp .And [a] pos) (liftT X.K Z t) := pw_and1 ha
theorem tor1 (ha : PT X a (liftT X.K Z t)) : PW X (.BoolOp .Or [a] pos) (liftT X.K Z t) := pw_or1 ha
theorem tand (ha : PT X a (liftT X.K Z t)) (hb : PW X (.BoolOp .And (b :: rest) pos) (liftT X.K Z u)) : PW X (.BoolOp .And (a :: b :: rest) pos) (liftT X.K Z (dAnd t u)) :=
  PW.of (pw_and ha hb) fun σ H Q h => by
    obtain ⟨g, F, env, P, k, w, q⟩ := h
    refine ⟨g, F, env, _, k, w, fun d env1 F1 H1 p e1 k1 => ?_⟩
    cases d with
    | true => exact iteT ⟨g, F1, env1, _, k1, p, fun d2 env2 F2 H2 p2 e2 k2 => q d2 env2 F2 H2 p2 (e1.trans e2) k2⟩
    | false => exact iteF (q _ env1 F1 H1 p e1 k1)
theorem tor (ha : PT X a (liftT X.K Z t)) (hb : PW X (.BoolOp .Or (b :: rest) pos) (liftT X.K Z u)) : PW X (.BoolOp .Or (a :: b :: rest) pos) (liftT X.K Z (dOr t u)) :=
  PW.of (pw_or ha hb) fun σ H Q h => by
    obtain ⟨g, F, env, P, k, w, q⟩ := h
    refine ⟨g, F, env, _, k, w, fun d env1 F1 H1 p e1 k1 => ?_⟩
    cases d with
    | false => exact iteF ⟨g, F1, env1, _, k1, p, fun d2 env2 F2 H2 p2 e2 k2 => q d2 env2 F2 H2 p2 (e1.trans e2) k2⟩
    | true => exact iteT (q _ env1 F1 H1 p e1 k1)
theorem tnot (ha : PT X a (liftT X.K Z t)) : PT X (.UnaryOp .Not a pos) (liftT X.K Z (dNot t)) :=
  PT.of (pt_not ha) fun σ H Q h => by
    obtain ⟨g, F, env, P, k, w, q⟩ := h
    exact ⟨g, F, env, _, k, w, fun d env1 F1 H1 p e1 k1 => q _ env1 F1 H1 p e1 k1⟩
abbrev dIf (t : DT) (wa wb : DE) (env : List SD) (P : PyData → List SD → Prop) : Prop := t env fun b env1 => bIf b (wa env1 P) (wb env1 P)
theorem dif {c : Expr} (hc : PT X c (liftT X.K Z t)) (ha : PE X a (liftE X.K Z wa)) (hb : PE X b (liftE X.K Z wb)) : PE X (.IfExp c a b pos) (liftE X.K Z (dIf t wa wb)) :=
  PE.of (pe_ifExp hc ha hb) fun σ H Q h => by
    obtain ⟨g, F, env, P, k, w, q⟩ := h
    refine ⟨g, F, env, _, k, w, fun d env1 F1 H1 p e1 k1 => ?_⟩
    cases d with
    | true => exact iteT ⟨g, F1, env1, _, k1, p, fun d2 env2 v2 F2 H2 p2 e2 k2 r2 => q d2 env2 v2 F2 H2 p2 (e1.trans e2) k2 r2⟩
    | false => exact iteF ⟨g, F1, env1, _, k1, p, fun d2 env2 v2 F2 H2 p2 e2 k2 r2 => q d2 env2 v2 F2 H2 p2 (e1.trans e2) k2 r2⟩
variable {was : DA}
abbrev dNil (env : List SD) (P : List PyData → List SD → Prop) : Prop := P [] env
abbrev dCons (wa : DE) (wr : DA) (env : List SD) (P : List PyData → List SD → Prop) : Prop := wa env fun x env1 => wr env1 fun xs env2 => P (x :: xs) env2
theorem anil : PA X [] (liftA X.K Z dNil) := PA.of pa_nil fun σ H Q h => by
  obtain ⟨g, F, env, P, k, w, q⟩ := h
  exact q [] env [] F H w (Ex.refl F) k .nil
theorem acons (ha : PE X e (liftE X.K Z wa)) (hr : PA X es (liftA X.K Z was)) (hs : starEach (e :: es) X.env = (false, eval e X.env) :: starEach es X.env := by rfl) : PA X (e :: es) (liftA X.K Z (dCons wa was)) :=
  PA.of (pa_cons ha hr hs) fun σ H Q h => by
    obtain ⟨g, F, env, P, k, w, q⟩ := h
    exact ⟨g, F, env, _, k, w, fun d env1 v F1 H1 p e1 k1 r1 => ⟨g, F1, env1, _, k1, p, fun ds env2 vs F2 H2 p2 e2 k2 r2 => q (d :: ds) env2 (v :: vs) F2 H2 p2 (e1.trans e2) k2 (.cons (r1.mono e2) r2)⟩⟩
abbrev dTup (wa : DA) (env : List SD) (P : PyData → List SD → Prop) : Prop := wa env fun xs env' => bIf (Nat.ble xs.length 100000) (P (.tuple xs) env') False
abbrev dLst (wa : DA) (env : List SD) (P : SD → List SD → Prop) : Prop := wa env fun xs env' => bIf (Nat.ble xs.length 100000) (P (.cel false xs) env') False
theorem dtup {k : _} (h : PA X es (liftA X.K Z was)) : PE X (.Tuple es k pos) (liftE X.K Z (dTup was)) :=
  PE.of (pe_tupZ h) fun σ H Q h => by
    obtain ⟨g, F, env, P, k, w, q⟩ := h
    refine ⟨g, F, env, _, k, w, fun ds env1 vs F1 H1 p e1 k1 r1 => ⟨by rw [r1.length]; exact Evl.sz_of (Nat.le_of_ble_eq_true (bIf_and p).1), fun x o hx ho => ?_⟩⟩
    obtain ⟨e2, k2, r2⟩ := k1.newTup hx ho r1
    exact q _ env1 _ _ _ (bIf_and p).2 (e1.trans e2) k2 r2
theorem dlst (h : PA X es (liftA X.K Z was)) : PE X (.List es pos) (liftX X.K Z (dLst was)) :=
  PE.of (pe_lst h) fun σ H Q h => by
    obtain ⟨g, F, env, P, k, w, q⟩ := h
    refine ⟨g, F, env, _, k, w, fun ds env1 vs F1 H1 p e1 k1 r1 => ⟨by rw [r1.length]; exact Evl.sz_of (Nat.le_of_ble_eq_true (bIf_and p).1), fun x hx => ?_⟩⟩
    obtain ⟨k2, r2⟩ := k1.newCell hx r1
    exact q _ env1 _ _ _ (bIf_and p).2 e1 k2 r2
/-- a new list that is to stay as it is -/
abbrev dFrz (w : DX) (env : List SD) (P : PyData → List SD → Prop) : Prop := w env fun r env' => match r with
  | .dat d => P d env'
  | .cel _ xs => P (.list xs) env'
  | _ => False
theorem dfrz {w : DX} (h : PE X e (liftX X.K Z w)) : PE X e (liftE X.K Z (dFrz w)) := PE.of h fun σ H Q h => by
  obtain ⟨g, F, env, P, k, w, q⟩ := h
  refine ⟨g, F, env, _, k, w, fun r env1 v F1 H1 p e1 k1 r1 => ?_⟩
  cases r with
  | un => exact p.elim
  | dic _ => exact p.elim
  | dat d => exact q d env1 v F1 H1 p e1 k1 r1
  | cel b xs =>
    obtain ⟨F2, e2, k2, r2⟩ := k1.freezeP r1
    exact q _ env1 v F2 H1 p (e1.trans e2) k2 r2
abbrev dX (w : DE) (env : List SD) (P : SD → List SD → Prop) : Prop := w env fun d env' => P (.dat d) env'
theorem dx {w : DE} (h : PE X e (liftE X.K Z w)) : PE X e (liftX X.K Z (dX w)) := PE.of h fun σ H Q h => by
  obtain ⟨g, F, env, P, k, w, q⟩ := h
  exact ⟨g, F, env, _, k, w, fun d env1 v F1 H1 p e1 k1 r1 => q (.dat d) env1 v F1 H1 p e1 k1 r1⟩
theorem dix {r : R2} {f : D2} (ho : IxR X r) (hd : OpD X.K r f) (ha : PE X a (liftE X.K Z wa)) (hb : PE X b (liftE X.K Z wb)) (hs : PlainIx b := by intro _ _; rfl) : PE X (.Subscript a b pos) (liftE X.K Z (dOp f wa wb)) :=
  PE.of (pe_ix ho ha hb hs) fun _ _ _ h => lift_op hd h
theorem ixr_or {r r' : R2} (h : IxR X r) (h' : IxR X r') : IxR X (fun x y H Q => r x y H Q ∨ r' x y H Q) := by
  intro value slice pins s σ H x y v u Q I rx ry q hs
  rcases q with q | q
  · exact h value slice pins s σ H x y v u Q I rx ry q hs
  · exact h' value slice pins s σ H x y v u Q I rx ry q hs
/-- the item at a place -/
@[irreducible] def pick (xs : List PyData) (k : Int) (P : PyData → Prop) : Prop := match atI xs k with
  | some d => P d
  | none => False
theorem pick_inv {xs : List PyData} {k : Int} {P : PyData → Prop} (h : pick xs k P) : ∃ d, atI xs k = some d ∧ P d := by
  unfold pick at h
  cases e : atI xs k with
  | none => rw [e] at h; exact h.elim
  | some d => rw [e] at h; exact ⟨d, rfl, h⟩
def ixQ (xs : List PyData) (y : PyData) (K : PyData → Prop) : Prop := match y with
  | .int k => pick xs k K
  | _ => False
/-- the sign at a place of a text -/
@[irreducible] def pickS (z : Str) (k : Int) (P : PyData → Prop) : Prop := match atI z.cps.toList k with
  | some c => z.length ≤ 100000 ∧ P (.str ⟨#[c]⟩)
  | none => False
theorem pickS_inv {z : Str} {k : Int} {P : PyData → Prop} (h : pickS z k P) : ∃ c, atI z.cps.toList k = some c ∧ z.length ≤ 100000 ∧ P (.str ⟨#[c]⟩) := by
  unfold pickS at h
  cases e : atI z.cps.toList k with
  | none => rw [e] at h; exact h.elim
  | some c => rw [e] at h; exact ⟨c, rfl, h⟩
def oIx (x y : PyData) (P : PyData → Prop) : Prop := match x, y with
  | .tuple xs, .int k => pick xs k P
  | .list xs, .int k => pick xs k P
  | .str z, .int k => pickS z k P
  | _, _ => False
theorem atI_rel {F : Hp} {vs : List V} {ds : List PyData} {k : Int} {d : PyData} (r : DRs K F vs ds) (h : atI ds k = some d) : ∃ v, atI vs k = some v ∧ DR K F v d := by
  unfold atI at h ⊢
  rw [r.length]
  cases e : ixN ds.length k with
  | none => rw [e] at h; cases h
  | some j =>
    rw [e] at h
    exact r.get h
def rIx (K : PySem.W.Frag) : R2 := fun x y H Q => rIxT K x y H Q ∨ (rIxL K x y H Q ∨ rIxS x y H Q)
theorem ixr : IxR X (rIx X.K) := ixr_or ix_tup (ixr_or ix_list ix_str)
theorem opd_ix : OpD K (rIx K) oIx := by
  intro _ _ g F env σ H vx vy dx dy P Q k rx ry p q
  unfold oIx at p
  split at p
  · rename_i xs i
    cases ry.inv_int
    obtain ⟨d, e, p⟩ := pick_inv p
    obtain ⟨a, us, rfl, h1, h2⟩ := rx.inv_tup
    obtain ⟨v, e1, e2⟩ := atI_rel h2 e
    exact .inl ⟨a, us, i, v, rfl, rfl, Evl.ex_t k.fh h1, e1, q d v F H p (Ex.refl F) k e2⟩
  · rename_i xs i
    cases ry.inv_int
    obtain ⟨d, e, p⟩ := pick_inv p
    obtain ⟨a, us, rfl, h1, h2⟩ := rx.inv_lst
    obtain ⟨v, e1, e2⟩ := atI_rel h2 e
    exact .inr (.inl ⟨a, us, i, v, rfl, rfl, (h1.mono k.fh).sq, e1, q d v F H p (Ex.refl F) k e2⟩)
  · rename_i z i
    cases ry.inv_int
    cases rx.inv_str
    obtain ⟨c, e, hz, p⟩ := pickS_inv p
    exact .inr (.inr ⟨z, i, c, rfl, rfl, by rw [sizeLine_eq]; omega, e, q _ _ F H p (Ex.refl F) k (.str _)⟩)
  · exact p.elim
theorem dixP (ha : PE X a (liftE X.K Z wa)) (hb : PE X b (liftE X.K Z wb)) (hs : PlainIx b := by intro _ _; rfl) : PE X (.Subscript a b pos) (liftE X.K Z (dOp oIx wa wb)) := dix ixr opd_ix ha hb hs
/-- an item of a name's own cell -/
abbrev dIxC (i : Nat) (wb : DE) (env : List SD) (P : PyData → List SD → Prop) : Prop := match env[i]? with
  | some (.cel _ _) => wb env fun y env1 => match env1[i]? with
    | some (.cel _ xs) => ixQ xs y fun d => P d env1
    | _ => False
  | _ => False
theorem dixC (i : Nat) {x : Str} {p0 : Pos} (hb : PE X b (liftE X.K Z wb)) (hN : X.N[i]? = some x := by rfl) (hv : Vis X.env.scope x := by first | exact Or.inl rfl | exact Or.inr (Or.inl rfl) | exact Or.inr (Or.inr rfl)) (hd : (x == ("__debug__" : Str)) = false := by decide)
    (hcd : (x == ("__classdict__" : Str)) = false := by decide) (hs : PlainIx b := by intro _ _; rfl) : PE X (.Subscript (.Name x p0) b pos) (liftE X.K Z (dIxC i wb)) :=
  PE.of (pe_ix ix_list (pe_var hN hv hd hcd) hb hs) fun σ H Q h => by
    obtain ⟨g, F, env, P, k, w, q⟩ := h
    unfold dIxC at w
    split at w
    · rename_i p xs e
      obtain ⟨a0, vs, h1, _⟩ := k.cel i p xs e
      refine ⟨_, h1, g, F, env, _, k, w, fun d env1 v F1 H1 p1 e1 k1 r1 => ?_⟩
      split at p1
      · rename_i p' ys e'
        obtain ⟨n, rfl, p1⟩ : ∃ n, d = .int n ∧ pick ys n _ := by
          cases d <;> first | exact ⟨_, rfl, p1⟩ | exact p1.elim
        cases r1.inv_int
        obtain ⟨d', ed, p1⟩ := pick_inv p1
        obtain ⟨a1, ws, z1, z2, z3, z4, z5⟩ := k1.cel i _ _ e'
        rw [h1] at z1
        cases z1
        obtain ⟨u, u1, u2⟩ := atI_rel z4 ed
        exact ⟨a0, ws, n, u, rfl, rfl, SqL.of z3, u1, q d' env1 u F1 H1 p1 e1 k1 u2⟩
      · exact p1.elim
    · exact w.elim
end
end DL

namespace DL
variable {T : List (PySem.Addr × PySem.Str)} {Z : Zx T}
open PySem PySem.Spec PyProof.Rows L2
open Evl (Ex)

/-- a whole number of at most thousand figures -/
def Sz (i : Int) : Prop := i.natAbs < 10 ^ 1000
theorem Sz.log {i : Int} (h : Sz i) : i.natAbs.log2 < 3322 := by
  have h1 : i.natAbs < 2 ^ 3322 := Nat.lt_trans h (by decide +kernel)
  exact PySem.Flt.log2_lt_of (by decide) h1
theorem Sz.bits {i : Int} (h : Sz i) : Builtin.Int.intBits i ≤ 3322 := by
  have h1 := h.log
  unfold Builtin.Int.intBits
  split <;> omega
theorem sz_of {i : Int} (h1 : -(10 ^ 100) ≤ i) (h2 : i ≤ 10 ^ 100) : Sz i := by
  unfold Sz
  have : i.natAbs ≤ 10 ^ 100 := by omega
  exact Nat.lt_of_le_of_lt this (by decide +kernel)
theorem sz_lt {i : Int} (h : i.natAbs < 10 ^ 250) : Sz i := Nat.lt_trans h (by decide +kernel)
section
variable {X : Cx} {K : PySem.W.Frag}
def oI (g : Int → Int → PyData) (x y : PyData) (P : PyData → Prop) : Prop := match x, y with
  | .int i, .int j => P (g i j)
  | _, _ => False
theorem opd_I0 {gv : Int → Int → V} {gd : Int → Int → PyData} (hg : ∀ (F : Hp) i j, DR K F (gv i j) (gd i j)) : OpD K (rI0 gv) (oI gd) := by
  intro _ _ g F env σ H vx vy dx dy P Q k rx ry p q
  unfold oI at p
  split at p
  · cases rx.inv_int
    cases ry.inv_int
    exact ⟨_, _, rfl, rfl, q _ _ F H p (Ex.refl F) k (hg F _ _)⟩
  · exact p.elim
def oIc (C : Int → Int → Prop) (g : Int → Int → PyData) (x y : PyData) (P : PyData → Prop) : Prop := match x, y with
  | .int i, .int j => C i j ∧ P (g i j)
  | _, _ => False
theorem opd_I {C C' : Int → Int → Prop} {gv : Int → Int → V} {gd : Int → Int → PyData} (hc : ∀ i j, C i j → C' i j) (hg : ∀ (F : Hp) i j, DR K F (gv i j) (gd i j)) : OpD K (rI C' gv) (oIc C gd) := by
  intro _ _ g F env σ H vx vy dx dy P Q k rx ry p q
  unfold oIc at p
  split at p
  · cases rx.inv_int
    cases ry.inv_int
    exact ⟨_, _, rfl, rfl, hc _ _ p.1, q _ _ F H p.2 (Ex.refl F) k (hg F _ _)⟩
  · exact p.elim
abbrev oSub : D2 := oI fun i j => .int (i - j)
/-- the one text ahead of the other -/
@[irreducible] def strLt (a b : Str) : Bool := decide (a.cps.toList < b.cps.toList)
def oLt (x y : PyData) (P : PyData → Prop) : Prop := match x, y with
  | .int i, .int j => P (.bool (decide (i < j)))
  | .str a, .str b => P (.bool (strLt a b))
  | _, _ => False
def rLtA : R2 := fun x y H Q => (rI0 fun i j => .bl (decide (i < j))) x y H Q ∨ ∃ i j, x = .str i ∧ y = .str j ∧ Q (.bl (decide (i.cps.toList < j.cps.toList))) H
theorem op_ltA {X : Cx} : OpR X (compareOp .Lt) rLtA := OpR.or op_lt op_lt_str
abbrev oLe : D2 := oI fun i j => .bool (decide (i ≤ j))
abbrev oGt : D2 := oI fun i j => .bool (decide (j < i))
abbrev oGe : D2 := oI fun i j => .bool (decide (j ≤ i))
abbrev oMod : D2 := oIc (fun _ j => 0 < j) fun i j => .int (i % j)
abbrev oDiv : D2 := oIc (fun _ j => 0 < j ∧ Sz j) fun i j => .int (i / j)
abbrev oMulI : D2 := oIc (fun i j => Sz i ∧ Sz j) fun i j => .int (i * j)
abbrev oPow : D2 := oIc (fun i j => Sz i ∧ 0 ≤ j ∧ j ≤ 10000) fun i j => .int (i ^ j.toNat)
variable {a b c e : Expr} {es : List Expr} {pos : Pos} {wa wb wc w : DE}
theorem op_powW : OpR X (binaryOp .Pow) (rI (fun i j => Sz i ∧ 0 ≤ j ∧ j ≤ 10000) fun i j => .int (i ^ j.toNat)) := by
  intro pins s σ H x y v u Q I rx ry h
  obtain ⟨i, j, rfl, rfl, ⟨h1, h2, h3⟩, q⟩ := h
  obtain ⟨t, rfl⟩ := rx
  obtain ⟨t', rfl⟩ := ry
  refine PyProof.Rows.pow_int h2 ?_ ⟨.int _, H, I.tok _, ⟨_, rfl⟩, q⟩
  have b := h1.bits
  have z : (Builtin.Int.intBits i : Int) * j ≤ 3322 * 10000 := Int.mul_le_mul (by omega) h3 h2 (by decide)
  exact Int.le_trans z (by decide)
theorem dsub (ha : PE X a (liftE X.K Z wa)) (hb : PE X b (liftE X.K Z wb)) : PE X (.BinOp a .Sub b pos) (liftE X.K Z (dOp oSub wa wb)) := dop op_sub (opd_I0 fun _ _ _ => .int _) ha hb
theorem dmod (ha : PE X a (liftE X.K Z wa)) (hb : PE X b (liftE X.K Z wb)) : PE X (.BinOp a .Mod b pos) (liftE X.K Z (dOp oMod wa wb)) := dop op_mod (opd_I (fun _ _ h => h) fun _ _ _ => .int _) ha hb
theorem ddiv (ha : PE X a (liftE X.K Z wa)) (hb : PE X b (liftE X.K Z wb)) : PE X (.BinOp a .FloorDiv b pos) (liftE X.K Z (dOp oDiv wa wb)) :=
  dop op_fdivW (opd_I (fun _ _ h => ⟨h.1, Nat.lt_trans h.2.log (by decide)⟩) fun _ _ _ => .int _) ha hb
theorem dpow (ha : PE X a (liftE X.K Z wa)) (hb : PE X b (liftE X.K Z wb)) : PE X (.BinOp a .Pow b pos) (liftE X.K Z (dOp oPow wa wb)) := dop op_powW (opd_I (fun _ _ h => h) fun _ _ _ => .int _) ha hb
theorem opr_ltA : OpD K rLtA oLt := by
  intro _ _ g F env σ H vx vy dx dy P Q k rx ry p q
  unfold oLt at p
  split at p
  · cases rx.inv_int
    cases ry.inv_int
    exact .inl ⟨_, _, rfl, rfl, q _ _ F H p (Ex.refl F) k (.bl _)⟩
  · cases rx.inv_str
    cases ry.inv_str
    unfold strLt at p
    exact .inr ⟨_, _, rfl, rfl, q _ _ F H p (Ex.refl F) k (.bl _)⟩
  · exact p.elim
theorem opr_le : OpD K (rI0 fun i j => V.bl (decide (i ≤ j))) oLe := opd_I0 fun _ _ _ => .bl _
theorem opr_gt : OpD K (rI0 fun i j => V.bl (decide (j < i))) oGt := opd_I0 fun _ _ _ => .bl _
theorem opr_ge : OpD K (rI0 fun i j => V.bl (decide (j ≤ i))) oGe := opd_I0 fun _ _ _ => .bl _
def oNeg (x : PyData) (P : PyData → Prop) : Prop := match x with
  | .int i => P (.int (-i))
  | _ => False
theorem dneg (ha : PE X a (liftE X.K Z wa)) : PE X (.UnaryOp .USub a pos) (liftE X.K Z (dUn oNeg wa)) := dun un_neg (by
  intro _ _ g F env σ H vx dx P Q k rx p q
  unfold oNeg at p
  split at p
  · cases rx.inv_int
    exact ⟨_, rfl, q _ _ F H p (Ex.refl F) k (.int _)⟩
  · exact p.elim) ha
def oAdd (x y : PyData) (P : PyData → Prop) : Prop := match x, y with
  | .int i, .int j => P (.int (i + j))
  | .tuple xs, .tuple ys => xs.length + ys.length ≤ 100000 ∧ P (.tuple (xs ++ ys))
  | .list xs, .list ys => xs.length + ys.length ≤ 100000 ∧ P (.list (xs ++ ys))
  | .str i, .str j => i.length + j.length ≤ 100000 ∧ P (.str (i ++ j))
  | _, _ => False
theorem sz2 {n : Nat} (h : n ≤ 100000) : n ≤ sizeLine := Evl.sz_of h
/-- two lists that stand, known to the object or not -/
def rCatL (K : PySem.W.Frag) : R2 := fun x y H Q => ∃ l b xs zs, x = .ref l ∧ y = .ref b ∧ RdL K H l xs ∧ RdL K H b zs ∧ xs.length + zs.length ≤ sizeLine ∧ ∀ p, H p = none → Q (.ref p) (upd H p (.lst (xs ++ zs)))
theorem op_catL : OpR X (binaryOp .Add) (rCatL X.K) := by
  intro pins s σ H x y v u Q I rx ry h
  obtain ⟨l, b, xs, zs, rfl, rfl, hl, hb, hz, q⟩ := h
  cases rx
  cases ry
  obtain ⟨z1, its, n, r1, e1⟩ := hl.obj I
  obtain ⟨z2, its2, n2, r2, e2⟩ := hb.obj I
  have l1 := r1.length
  have l2 := r2.length
  refine PySem.P.add_list e1 e2 ?_ (by rw [List.size_toArray, List.size_toArray]; omega)
  rw [show its.toArray ++ its2.toArray = (its ++ its2).toArray by simp]
  exact ⟨.ref _, _, I.lnew (t' := s.toks) (r1.append r2) (by rw [List.length_append]; omega), rfl, q _ I.fresh⟩
def rAddD (K : PySem.W.Frag) : R2 := fun x y H Q => ((rI0 fun i j => .int (i + j)) x y H Q ∨ rCatZ K x y H Q) ∨ (rCatL K x y H Q ∨ (∃ i j, x = .str i ∧ y = .str j ∧ i.length + j.length ≤ sizeLine ∧ Q (.str (i ++ j)) H))
theorem op_addD : OpR X (binaryOp .Add) (rAddD X.K) := OpR.or (OpR.or op_add op_catZ) (OpR.or op_catL op_add_str)
theorem opd_add : OpD K (rAddD K) oAdd := by
  intro _ _ g F env σ H vx vy dx dy P Q k rx ry p q
  unfold oAdd at p
  split at p
  · cases rx.inv_int
    cases ry.inv_int
    exact .inl (.inl ⟨_, _, rfl, rfl, q _ _ F H p (Ex.refl F) k (.int _)⟩)
  · rename_i xs ys
    obtain ⟨a, us, rfl, h1, h2⟩ := rx.inv_tup
    obtain ⟨b, ws, rfl, h3, h4⟩ := ry.inv_tup
    have l1 := h2.length
    have l2 := h4.length
    refine .inl (.inr ⟨a, b, us, ws, rfl, rfl, Evl.ex_t k.fh h1, Evl.ex_t k.fh h3, by rw [l1, l2]; exact sz2 p.1, fun e => ?_, fun _ e => ?_, fun _ _ x o hx ho => ?_⟩)
    · subst e
      have : xs = [] := by cases h2; rfl
      subst this
      exact q _ _ F H p.2 (Ex.refl F) k ry
    · subst e
      have : ys = [] := by cases h4; rfl
      subst this
      rw [List.append_nil] at p
      exact q _ _ F H p.2 (Ex.refl F) k rx
    · obtain ⟨e2, k2, r2⟩ := k.newTup hx ho (h2.append h4)
      exact q _ _ _ _ p.2 e2 k2 r2
  · rename_i xs ys
    obtain ⟨a, us, rfl, h1, h2⟩ := rx.inv_lst
    obtain ⟨b, ws, rfl, h3, h4⟩ := ry.inv_lst
    have l1 := h2.length
    have l2 := h4.length
    refine .inr (.inl ⟨a, b, us, ws, rfl, rfl, h1.mono k.fh, h3.mono k.fh, by rw [l1, l2]; exact sz2 p.1, fun x hx => ?_⟩)
    obtain ⟨e2, k2, r2⟩ := k.newLst hx (h2.append h4)
    exact q _ _ _ _ p.2 e2 k2 r2
  · cases rx.inv_str
    cases ry.inv_str
    exact .inr (.inr ⟨_, _, rfl, rfl, sz2 p.1, q _ _ F H p.2 (Ex.refl F) k (.str _)⟩)
  · exact p.elim
theorem dadd (ha : PE X a (liftE X.K Z wa)) (hb : PE X b (liftE X.K Z wb)) : PE X (.BinOp a .Add b pos) (liftE X.K Z (dOp oAdd wa wb)) := dop op_addD opd_add ha hb
mutual
theorem DR.dp {K : PySem.W.Frag} {H : Hp} : ∀ {d : PyData} {v : V}, DR K H v d → PyData.hasDict d = false → Dp K H v d
  | .none, _, h, _ => by cases h; exact .non
  | .bool b, _, h, _ => by cases h; exact .bl b
  | .int i, _, h, _ => by cases h; exact .int i
  | .str x, _, h, _ => by cases h; exact .str x
  | .list ds, _, h, hd => by
    cases h with
    | lst a b => exact .lst a.sq (DRs.dp b (by simpa [PyData.hasDict] using hd))
  | .tuple ds, _, h, hd => by
    cases h with
    | tup a b => exact .tup a.sq (DRs.dp b (by simpa [PyData.hasDict] using hd))
  | .dict kvs, _, _, hd => by simp [PyData.hasDict] at hd
theorem DRs.dp {K : PySem.W.Frag} {H : Hp} : ∀ {ds : List PyData} {vs : List V}, DRs K H vs ds → PyData.hasDictAll ds = false → DpAll K H vs ds
  | [], _, h, _ => by cases h; exact .nil
  | d :: ds, _, h, hd => by
    simp only [PyData.hasDictAll, Bool.or_eq_false_iff] at hd
    cases h with
    | cons a b => exact .cons (DR.dp a hd.1) (DRs.dp b hd.2)
end
/-- == of two data, not to be looked into -/
@[irreducible] def eqD (x y : PyData) : Bool := PyData.eqv x y
theorem eqD_eq {x y : PyData} : eqD x y = PyData.eqv x y := by
  unfold eqD
  rfl
theorem eqD_int {i j : Int} : eqD (.int i) (.int j) = decide (i = j) := by
  rw [eqD_eq]
  show (i == j) = _
  rw [Bool.beq_eq_decide_eq]
def oEq (x y : PyData) (P : PyData → Prop) : Prop := match x, y with
  | .str a, .str b => P (.bool (decide (a = b)))
  | x, y => (SeqAt.shaped x = true ∧ SeqAt.shaped y = true) ∧ P (.bool (eqD x y))
def oNe (x y : PyData) (P : PyData → Prop) : Prop := match x, y with
  | .str a, .str b => P (.bool (!decide (a = b)))
  | x, y => (SeqAt.shaped x = true ∧ SeqAt.shaped y = true) ∧ P (.bool (!eqD x y))
theorem dict_of_shaped {d : PyData} (h : SeqAt.shaped d = true) : PyData.hasDict d = false := PyData.hasDict_of_canLay d (SeqAt.canLay_of_shaped h)
def rEqE (K : PySem.W.Frag) : R2 := fun x y H Q => rEq x y H Q ∨ rEqD K x y H Q
def rNeE (K : PySem.W.Frag) : R2 := fun x y H Q => rNe x y H Q ∨ rNeD K x y H Q
theorem op_eqE (hu : X.A.units + 64 < cLine) : OpR X (compareOp .Eq) (rEqE X.K) := OpR.or op_eq (op_eqD hu)
theorem op_neE (hu : X.A.units + 64 < cLine) : OpR X (compareOp .NotEq) (rNeE X.K) := OpR.or op_ne (op_neD hu)
theorem str_dec {a b : Str} : decide (V.str a = V.str b) = decide (a = b) := by
  by_cases h : a = b
  · subst h
    rw [decide_eq_true rfl, decide_eq_true rfl]
  · rw [decide_eq_false h, decide_eq_false (fun z => h (V.str.inj z))]
theorem opd_eq : OpD K (rEqE K) oEq := by
  intro _ _ g F env σ H vx vy dx dy P Q k rx ry p q
  unfold oEq at p
  split at p
  · cases rx.inv_str
    cases ry.inv_str
    refine .inl ⟨rfl, ?_⟩
    rw [str_dec]
    exact q _ _ F H p (Ex.refl F) k (.bl _)
  · obtain ⟨⟨h1, h2⟩, p⟩ := p
    rw [eqD_eq] at p
    exact .inr ⟨_, _, DR.dp (drH k rx) (dict_of_shaped h1), DR.dp (drH k ry) (dict_of_shaped h2), h1, h2, q _ _ F H p (Ex.refl F) k (.bl _)⟩
theorem opd_ne : OpD K (rNeE K) oNe := by
  intro _ _ g F env σ H vx vy dx dy P Q k rx ry p q
  unfold oNe at p
  split at p
  · cases rx.inv_str
    cases ry.inv_str
    refine .inl ⟨rfl, ?_⟩
    rw [str_dec]
    exact q _ _ F H p (Ex.refl F) k (.bl _)
  · obtain ⟨⟨h1, h2⟩, p⟩ := p
    rw [eqD_eq] at p
    exact .inr ⟨_, _, DR.dp (drH k rx) (dict_of_shaped h1), DR.dp (drH k ry) (dict_of_shaped h2), h1, h2, q _ _ F H p (Ex.refl F) k (.bl _)⟩
def oIsN (x : PyData) (P : PyData → Prop) : Prop := match x with
  | .none => P (.bool true)
  | _ => P (.bool false)
def oNotN (x : PyData) (P : PyData → Prop) : Prop := match x with
  | .none => P (.bool false)
  | _ => P (.bool true)
theorem non_iff {F : Hp} {v : V} {d : PyData} (r : DR K F v d) : decide (v = .non) = match d with | .none => true | _ => false := by
  cases r <;> first | rfl | (apply decide_eq_false; intro h; cases h)
theorem tisN {j pos'} (ha : PE X a (liftE X.K Z wa)) : PT X (.Compare a [.Is] [.Constant .none j pos'] pos) (liftT X.K Z (dTest (dUn oIsN wa))) :=
  PT.of (pt_cmp (pc_isN ha) rfl) fun σ H Q h => by
    obtain ⟨g, F, env, P, k, w, q⟩ := h
    refine ⟨g, F, env, _, k, w, fun d env1 v F1 H1 p e1 k1 r1 => ?_⟩
    refine ⟨_, rfl, ?_⟩
    rw [non_iff r1]
    cases d <;> exact q _ env1 F1 H1 p e1 k1
abbrev DN := List PyData → (PyData → Prop) → Prop
abbrev dB (f : DN) (wa : DA) (env : List SD) (P : PyData → List SD → Prop) : Prop := wa env fun xs env' => f xs fun z => P z env'
def CallD (K : PySem.W.Frag) (r : List V → Hp → VK → Prop) (f : DN) : Prop :=
  ∀ (T : List (Addr × Str)) (Z : Zx T) (g : Gx Z) (F : Hp) (env : List SD) (σ : L2.St) (H : Hp) (vs : List V) (ds : List PyData) (P : PyData → Prop) (Q : VK), Ok K g F env σ H → DRs K F vs ds → f ds P →
    (∀ d v F' H', P d → Ex F F' → Ok K g F' env σ H' → DR K F' v d → Q v H') → r vs H Q
theorem lift_call {r : List V → Hp → VK → Prop} {f : DN} {was : DA} (hd : CallD K r f) {σ : L2.St} {H : Hp} {Q : VK} (h : liftE K Z (dB f was) σ H Q) : tCB r (liftA K Z was) σ H Q := by
  obtain ⟨g, F, env, P, k, w, q⟩ := h
  refine ⟨g, F, env, _, k, w, fun ds env1 vs F1 H1 p e1 k1 r1 => ?_⟩
  exact hd _ _ g F1 env1 σ H1 vs ds _ Q k1 r1 p fun d2 v2 F2 H2 p2 e2 k2 r2 => q d2 env1 v2 F2 H2 p2 (e1.trans e2) k2 r2
theorem dcb {x : Str} {id : String} {p : Pos} {r : List V → Hp → VK → Prop} {f : DN} {was : DA} (hc : CallR X (.builtin id) r) (hd : CallD X.K r f) (hm : X.mg x = none) (hv : bootBuiltins x = some (.builtin id)) (ha : PA X (e :: es) (liftA X.K Z was))
    (hg : Gl X x := by rfl) (hn : x ≠ "__name__" := by decide) (hdb : (x == ("__debug__" : Str)) = false := by decide)
    (he : starEach (e :: es) X.env = (false, eval e X.env) :: starEach es X.env := by rfl) (hpl : (backTo pos (starEach es X.env)).any (·.1) = false := by rfl) : PE X (.Call (.Name x p) (e :: es) [] pos) (liftE X.K Z (dB f was)) :=
  PE.of (pe_callB hc hg hm hv ha hn hdb he hpl) fun _ _ _ h => lift_call hd h
theorem dct {x : Str} {T : String} {p : Pos} {r : List V → Hp → VK → Prop} {f : DN} {was : DA} (hc : CallR X (.type T) r) (hd : CallD X.K r f) (hm : X.mg x = none) (hv : bootBuiltins x = some (.type T)) (ha : PA X (e :: es) (liftA X.K Z was))
    (hg : Gl X x := by rfl) (hn : x ≠ "__name__" := by decide) (hdb : (x == ("__debug__" : Str)) = false := by decide)
    (he : starEach (e :: es) X.env = (false, eval e X.env) :: starEach es X.env := by rfl) (hpl : (backTo pos (starEach es X.env)).any (·.1) = false := by rfl) : PE X (.Call (.Name x p) (e :: es) [] pos) (liftE X.K Z (dB f was)) :=
  PE.of (pe_callTy hc hg hm hv ha hn hdb he hpl) fun _ _ _ h => lift_call hd h
variable {was : DA} {p : Pos}
/-- all whole numbers -/
def intsD : List PyData → Option (List Int)
  | [] => some []
  | .int i :: r => (intsD r).map (i :: ·)
  | _ :: _ => none
def boolsD : List PyData → Option (List Bool)
  | [] => some []
  | .bool i :: r => (boolsD r).map (i :: ·)
  | _ :: _ => none
theorem ints_rel {F : Hp} : ∀ {ds : List PyData} {vs : List V} {ns : List Int}, DRs K F vs ds → intsD ds = some ns → vs = ns.map V.int
  | [], _, _, h, e => by cases h; cases e; rfl
  | .int i :: r, _, ns, h, e => by
    cases h with
    | cons a b =>
      cases q : intsD r with
      | none => simp [intsD, q] at e
      | some ms =>
        simp only [intsD, q, Option.map_some, Option.some.injEq] at e
        subst e
        cases a.inv_int
        rw [ints_rel b q]
        rfl
  | .none :: _, _, _, _, e => by simp [intsD] at e
  | .bool _ :: _, _, _, _, e => by simp [intsD] at e
  | .str _ :: _, _, _, _, e => by simp [intsD] at e
  | .list _ :: _, _, _, _, e => by simp [intsD] at e
  | .tuple _ :: _, _, _, _, e => by simp [intsD] at e
  | .dict _ :: _, _, _, _, e => by simp [intsD] at e
theorem bools_rel {F : Hp} : ∀ {ds : List PyData} {vs : List V} {ns : List Bool}, DRs K F vs ds → boolsD ds = some ns → vs = ns.map V.bl
  | [], _, _, h, e => by cases h; cases e; rfl
  | .bool i :: r, _, ns, h, e => by
    cases h with
    | cons a b =>
      cases q : boolsD r with
      | none => simp [boolsD, q] at e
      | some ms =>
        simp only [boolsD, q, Option.map_some, Option.some.injEq] at e
        subst e
        cases a.inv_bool
        rw [bools_rel b q]
        rfl
  | .none :: _, _, _, _, e => by simp [boolsD] at e
  | .int _ :: _, _, _, _, e => by simp [boolsD] at e
  | .str _ :: _, _, _, _, e => by simp [boolsD] at e
  | .list _ :: _, _, _, _, e => by simp [boolsD] at e
  | .tuple _ :: _, _, _, _, e => by simp [boolsD] at e
  | .dict _ :: _, _, _, _, e => by simp [boolsD] at e
def nLen (xs : List PyData) (P : PyData → Prop) : Prop := match xs with
  | [.list ds] => P (.int (ds.length : Nat))
  | [.tuple ds] => P (.int (ds.length : Nat))
  | [.str x] => x.length ≤ 100000 ∧ P (.int (x.length : Nat))
  | _ => False
theorem dlen (hm : X.mg "len" = none) (ha : PA X (e :: es) (liftA X.K Z was)) (hg : Gl X "len" := by rfl)
    (he : starEach (e :: es) X.env = (false, eval e X.env) :: starEach es X.env := by rfl) (hpl : (backTo pos (starEach es X.env)).any (·.1) = false := by rfl) : PE X (.Call (.Name "len" p) (e :: es) [] pos) (liftE X.K Z (dB nLen was)) :=
  dcb call_len (fun _ _ g F env σ H vs ds P Q k r f q => by
    unfold nLen at f
    split at f
    · obtain ⟨v, rfl, r0⟩ := r.inv1
      obtain ⟨a, us, rfl, h1, h2⟩ := r0.inv_lst
      exact ⟨_, us.length, rfl, .inl ⟨us, (h1.mono k.fh).sq, rfl⟩, by rw [h2.length]; exact q _ _ F H f (Ex.refl F) k (.int _)⟩
    · obtain ⟨v, rfl, r0⟩ := r.inv1
      obtain ⟨a, us, rfl, h1, h2⟩ := r0.inv_tup
      exact ⟨_, us.length, rfl, .inr ⟨us, Evl.ex_t k.fh h1, rfl⟩, by rw [h2.length]; exact q _ _ F H f (Ex.refl F) k (.int _)⟩
    · obtain ⟨v, rfl, r0⟩ := r.inv1
      cases r0.inv_str
      exact ⟨_, _, rfl, ⟨sz2 f.1, rfl⟩, q _ _ F H f.2 (Ex.refl F) k (.int _)⟩
    · exact f.elim) hm PySem.boot_len ha hg (by decide) (by decide) he hpl
def nAbs (xs : List PyData) (P : PyData → Prop) : Prop := match xs with
  | [.int i] => P (.int (if i < 0 then -i else i))
  | _ => False
theorem dabs (hm : X.mg "abs" = none) (ha : PA X (e :: es) (liftA X.K Z was)) (hg : Gl X "abs" := by rfl)
    (he : starEach (e :: es) X.env = (false, eval e X.env) :: starEach es X.env := by rfl) (hpl : (backTo pos (starEach es X.env)).any (·.1) = false := by rfl) : PE X (.Call (.Name "abs" p) (e :: es) [] pos) (liftE X.K Z (dB nAbs was)) :=
  dcb call_abs (fun _ _ g F env σ H vs ds P Q k r f q => by
    unfold nAbs at f
    split at f
    · obtain ⟨v, rfl, r0⟩ := r.inv1
      cases r0.inv_int
      exact ⟨_, rfl, q _ _ F H f (Ex.refl F) k (.int _)⟩
    · exact f.elim) hm (by decide +kernel) ha hg (by decide) (by decide) he hpl
def nMin2 (xs : List PyData) (P : PyData → Prop) : Prop := match xs with
  | [.int i, .int j] => P (.int (if j < i then j else i))
  | _ => False
def nMax2 (xs : List PyData) (P : PyData → Prop) : Prop := match xs with
  | [.int i, .int j] => P (.int (if j > i then j else i))
  | _ => False
theorem dmin2 (hm : X.mg "min" = none) (hc : X.calm = true) (ha : PA X (e :: es) (liftA X.K Z was)) (hg : Gl X "min" := by rfl)
    (he : starEach (e :: es) X.env = (false, eval e X.env) :: starEach es X.env := by rfl) (hpl : (backTo pos (starEach es X.env)).any (·.1) = false := by rfl) : PE X (.Call (.Name "min" p) (e :: es) [] pos) (liftE X.K Z (dB nMin2 was)) :=
  dcb (call_min2 hc) (fun _ _ g F env σ H vs ds P Q k r f q => by
    unfold nMin2 at f
    split at f
    · obtain ⟨v, w, rfl, r1, r2⟩ := r.inv2
      cases r1.inv_int
      cases r2.inv_int
      exact ⟨_, _, rfl, q _ _ F H f (Ex.refl F) k (.int _)⟩
    · exact f.elim) hm (by decide +kernel) ha hg (by decide) (by decide) he hpl
theorem dmax2 (hm : X.mg "max" = none) (hc : X.calm = true) (ha : PA X (e :: es) (liftA X.K Z was)) (hg : Gl X "max" := by rfl)
    (he : starEach (e :: es) X.env = (false, eval e X.env) :: starEach es X.env := by rfl) (hpl : (backTo pos (starEach es X.env)).any (·.1) = false := by rfl) : PE X (.Call (.Name "max" p) (e :: es) [] pos) (liftE X.K Z (dB nMax2 was)) :=
  dcb (call_max2 hc) (fun _ _ g F env σ H vs ds P Q k r f q => by
    unfold nMax2 at f
    split at f
    · obtain ⟨v, w, rfl, r1, r2⟩ := r.inv2
      cases r1.inv_int
      cases r2.inv_int
      exact ⟨_, _, rfl, q _ _ F H f (Ex.refl F) k (.int _)⟩
    · exact f.elim) hm (by decide +kernel) ha hg (by decide) (by decide) he hpl
def nAll (xs : List PyData) (P : PyData → Prop) : Prop := match xs with
  | [.list ds] => (match boolsD ds with | some bs => P (.bool (bs.all id)) | none => False)
  | _ => False
def nAny (xs : List PyData) (P : PyData → Prop) : Prop := match xs with
  | [.list ds] => (match boolsD ds with | some bs => P (.bool (bs.any id)) | none => False)
  | _ => False
theorem dall (hm : X.mg "all" = none) (hc : X.calm = true) (ha : PA X (e :: es) (liftA X.K Z was)) (hg : Gl X "all" := by rfl)
    (he : starEach (e :: es) X.env = (false, eval e X.env) :: starEach es X.env := by rfl) (hpl : (backTo pos (starEach es X.env)).any (·.1) = false := by rfl) : PE X (.Call (.Name "all" p) (e :: es) [] pos) (liftE X.K Z (dB nAll was)) :=
  dcb (cr_all hc) (fun _ _ g F env σ H vs ds P Q k r f q => by
    unfold nAll at f
    split at f
    · split at f
      · rename_i bs e
        obtain ⟨v, rfl, r0⟩ := r.inv1
        obtain ⟨a, us, rfl, h1, h2⟩ := r0.inv_lst
        cases bools_rel h2 e
        exact ⟨a, bs, rfl, (h1.mono k.fh).sq, q _ _ F H f (Ex.refl F) k (.bl _)⟩
      · exact f.elim
    · exact f.elim) hm (by decide +kernel) ha hg (by decide) (by decide) he hpl
/-- isinstance(x, T), T a built-in type -/
def tyName : PyData → String
  | .none => "NoneType"
  | .bool _ => "bool"
  | .int _ => "int"
  | .str _ => "str"
  | .list _ => "list"
  | .tuple _ => "tuple"
  | .dict [] => "dict"
  | .dict ((.int _, _) :: _) => "dict"
  | .dict ((.str _, _) :: _) => "dict"
  | .dict _ => "list"
def isiB (d : PyData) (T : String) : Bool := (T == tyName d) || (T == "int" && tyName d == "bool")
theorem tyX_of0 {F : Hp} {v : V} {d : PyData} (r : DR K F v d) (hno : ∀ c, d ≠ .dict [(.none, .str c)]) (hno2 : ∀ a c, v = .ref a → d = .dict [(.none, c)] → ¬ Opq K a c) : TyX K F v (.type (tyName d)) := by
  cases r with
  | exc _ _ => exact absurd rfl (hno _)
  | opq _ x => exact absurd x (hno2 _ _ rfl rfl)

  | non => exact .base .non
  | bl b => exact .base (.bl b)
  | int i => exact .base (.int i)
  | str x => exact .base (.str x)
  | lst h _ =>
    rcases h with (h | ⟨o, h⟩) | ⟨its, n, h, _⟩
    · exact .base (.lst h)
    · exact .base (.frz h)
    · exact .kList h rfl
  | tup h _ =>
    rcases h.sq with (h | ⟨o, h⟩) | ⟨o, its, n, h, hc, _⟩
    · exact .base (.tup h)
    · exact .fTuple h
    · exact .kTuple h hc
  | dct h m => cases m <;> exact .fDict h
  | row h _ => exact .base (.lst h)
theorem tyX_of {F : Hp} {v : V} {d : PyData} (r : DR K F v d) : TyX K F v (.type (tyName d)) ∨ (∃ a c, v = .ref a ∧ d = .dict [(.none, .str c)] ∧ F a = some (.ext (ExcAt (He.ga K c) a)) ∧ XcF K c) ∨ ∃ a c, v = .ref a ∧ d = .dict [(.none, c)] ∧ Opq K a c ∧ IsiNo K F a := by
  by_cases h : ∃ c, d = .dict [(.none, .str c)]
  · obtain ⟨c, rfl⟩ := h
    cases r with
    | exc h x => exact .inr (.inl ⟨_, _, rfl, rfl, h, x⟩)
    | dct _ m => cases m
    | opq h x => exact .inr (.inr ⟨_, _, rfl, rfl, x, h F (Ex.refl F)⟩)
  · by_cases h2 : ∃ a c, v = .ref a ∧ d = .dict [(.none, c)] ∧ Opq K a c
    · obtain ⟨a, c, rfl, rfl, x⟩ := h2
      cases r with
      | opq h x => exact .inr (.inr ⟨_, _, rfl, rfl, x, h F (Ex.refl F)⟩)
      | exc h3 x3 => exact absurd ⟨_, rfl⟩ h
      | dct _ m => cases m
      | row _ _ => rcases x with x | ⟨_, x, _⟩ <;> cases x
    · exact .inl (tyX_of0 r (fun c z => h ⟨c, z⟩) fun a c e1 e2 x => h2 ⟨a, c, e1, e2, x⟩)
theorem kit_isi (d : PyData) : ∀ T ∈ exTypes, PySem.W.kitOne K (.type (tyName d)) (.type T) = some (isiB d T) := by
  have h : ∀ N ∈ ["NoneType", "bool", "int", "str", "list", "tuple", "dict"], ∀ T ∈ exTypes, kitB N T = some ((T == N) || (T == "int" && N == "bool")) := by decide +kernel
  intro T hT
  exact kit_ty (h (tyName d) (by unfold tyName; split <;> simp) T hT)
/-- isinstance(e, c), e a caught refusal -/
def rIsE1 (K : PySem.W.Frag) : List V → Hp → VK → Prop := fun xs H Q => ∃ (a C : Addr) (c : V) (u : Value) (b : Bool), xs = [.ref a, c] ∧ ClsV c u ∧ H a = some (.ext (ExcAt C a)) ∧ ExcC K C ∧ PySem.W.kitOne K (.ref C) u = some b ∧ Q (.bl b) H
theorem exc_inst {H : Hp} {s : Shared} {σ : L2.St} {pins : List (Addr × Obj)} {a C : Addr} (I : Inv X pins σ H s) (h : H a = some (.ext (ExcAt C a))) : ∃ oe, PySem.W.InstAt s.heap a oe C none := by
  obtain ⟨⟨oe, vs, h1, h2, h3, h4, _⟩, _⟩ := (show ObjOk X.prog X.w H s.heap a (.ext (ExcAt C a)) from I.hok a _ h)
  obtain ⟨oc, od, oda, osl⟩ := oe
  dsimp only at h2 h3 h4
  subst h2 h3 h4
  exact ⟨_, h1, rfl, rfl, trivial⟩
theorem call_isE1 : CallR X (.builtin "isinstance") (rIsE1 X.K) := by
  intro pins s σ H xs us Q I r h
  obtain ⟨a, C, c, u, b, rfl, k, hH, x, e, q⟩ := h
  obtain ⟨u1, u2, rfl, r1, r2⟩ := vals2 r
  have e2 := k.eq r2
  subst e2
  cases (show u1 = Value.ref a from r1)
  obtain ⟨oe, J⟩ := exc_inst I hH
  exact PySem.W.kia_one (PySem.W.handS_kitx_exc x.hg x.hk x.hs x.hd x.ha x.hn x.ht x.hm) I.kIn J e (fun z => nomatch z) fun tk => ⟨.bl b, H, I.tok tk, rfl, q⟩
theorem CallR.or {f : Value} {r r' : List V → Hp → VK → Prop} (h : CallR X f r) (h' : CallR X f r') : CallR X f (fun xs H Q => r xs H Q ∨ r' xs H Q) := by
  intro pins s σ H xs us Q I rv q
  rcases q with q | q
  · exact h pins s σ H xs us Q I rv q
  · exact h' pins s σ H xs us Q I rv q
/-- isinstance of an opaque thing -/
def rIsO (K : PySem.W.Frag) : List V → Hp → VK → Prop := fun xs H Q => ∃ (a : Addr) (T : String), xs = [.ref a, .ty T] ∧ T ∈ exTypes ∧ IsiNo K H a ∧ Q (.bl false) H
theorem call_isO : CallR X (.builtin "isinstance") (rIsO X.K) := by
  intro pins s σ H xs us Q I r h
  obtain ⟨a, T, rfl, hT, no, q⟩ := h
  obtain ⟨u1, u2, rfl, r1, r2⟩ := vals2 r
  cases (show u1 = Value.ref a from r1)
  cases (show u2 = Value.type T from r2)
  exact no X pins s σ T Q rfl hT I q
theorem isi_opq {a : Addr} {c : PyData} (x : Opq K a c) : ∀ T ∈ exTypes, isiB (.dict [(.none, c)]) T = false := by
  intro T hT
  simp only [exTypes, List.mem_cons, List.not_mem_nil, or_false] at hT
  rcases x with rfl | ⟨f, rfl, _⟩ <;> rcases hT with rfl | rfl | rfl | rfl | rfl <;> rfl
abbrev dIsi (T : String) (wa : DE) (env : List SD) (P : PyData → List SD → Prop) : Prop := wa env fun d env' => P (.bool (isiB d T)) env'
theorem disi (T : String) (xT : Str) {p q2 : Pos} (hm : X.mg "isinstance" = none) (hmT : X.mg xT = none) (hvT : bootBuiltins xT = some (.type T)) (hT : T ∈ exTypes) (ha : PE X a (liftE X.K Z wa)) (hg : Gl X "isinstance" := by rfl) (hgT : Gl X xT := by rfl)
    (hnT : xT ≠ "__name__" := by decide) (hdT : (xT == ("__debug__" : Str)) = false := by decide)
    (hs1 : starEach [a, .Name xT q2] X.env = (false, eval a X.env) :: starEach [.Name xT q2] X.env := by rfl) (hs2 : starEach [.Name xT q2] X.env = (false, eval (.Name xT q2) X.env) :: starEach [] X.env := by rfl)
    (hpl : (backTo pos (starEach [Expr.Name xT q2] X.env)).any (·.1) = false := by rfl) : PE X (.Call (.Name "isinstance" p) [a, .Name xT q2] [] pos) (liftE X.K Z (dIsi T wa)) :=
  PE.of (pe_callB ((call_isi.or call_isE1).or call_isO) hg hm (by decide +kernel) (pa_cons ha (pa_cons (pe_bltn (v := .ty T) hgT hmT hvT rfl hnT hdT) pa_nil hs2) hs1) (by decide) (by decide) hs1 hpl) fun σ H Q h => by
    obtain ⟨g, F, env, P, k, w, q⟩ := h
    refine ⟨g, F, env, _, k, w, fun d env1 v F1 H1 p e1 k1 r1 => ?_⟩
    rcases tyX_of (drH k1 r1) with ty | ⟨a, c, rfl, rfl, hx, x⟩ | ⟨a, c, rfl, rfl, x, no⟩
    · exact .inl <| .inl ⟨v, .ty T, _, _, _, rfl, .ty T, ty, kit_isi d T hT, q _ env1 _ F1 H1 p e1 k1 (.bl _)⟩
    · refine .inl <| .inr ⟨a, _, .ty T, _, false, rfl, .ty T, hx, x.cls, x.six T hT, ?_⟩
      have e : isiB (.dict [(.none, .str c)]) T = false := by
        have : ∀ T ∈ exTypes, isiB (.dict [(.none, .str c)]) T = false := by
          intro T hT
          simp only [exTypes, List.mem_cons, List.not_mem_nil, or_false] at hT
          rcases hT with rfl | rfl | rfl | rfl | rfl <;> rfl
        exact this T hT
      rw [e] at p
      exact q _ env1 _ F1 H1 p e1 k1 (.bl _)
    · rw [isi_opq x T hT] at p
      exact .inr ⟨a, T, rfl, hT, no, q _ env1 _ F1 H1 p e1 k1 (.bl _)⟩
end
end DL

namespace DL
variable {T : List (PySem.Addr × PySem.Str)} {Z : Zx T}
open PySem PySem.Spec PyProof.Rows L2
open Evl (Ex)

abbrev DSp := List SD → (SD → List SD → Prop) → Prop
structure ArgsOk (T : List (Addr × Str)) (K : PySem.W.Frag) (F H : Hp) (vs : List V) (as : List SD) : Prop where
  len : as.length = vs.length
  fh : Ex F H
  dat : ∀ (i : Nat) (d : PyData), as[i]? = some (.dat d) → ∃ v, vs[i]? = some v ∧ DR K F v d
  cel : ∀ (i : Nat) (p : Bool) (xs : List PyData), as[i]? = some (.cel p xs) → p = true ∧ ∃ a us, vs[i]? = some (.ref a) ∧ F a = none ∧ H a = some (.lst us) ∧ DRs K F us xs
  sep : ∀ (i j : Nat) (p q : Bool) (xs ys : List PyData) (a : Addr), as[i]? = some (.cel p xs) → as[j]? = some (.cel q ys) → vs[i]? = some (.ref a) → vs[j]? = some (.ref a) → i = j
  nod : ∀ (i : Nat) (w : Own), as[i]? ≠ some (.dic w)
  tab : LamX.Tabs T H
  nt : ∀ a ps, F a ≠ some (.tbl ps)
structure PostOk (T : List (Addr × Str)) (K : PySem.W.Frag) (F H : Hp) (vs : List V) (as : List SD) (F' H' : Hp) (as' : List SD) (v : V) (r : SD) : Prop where
  ex : Ex F F'
  nt : ∀ a ps, F' a ≠ some (.tbl ps)
  fh : Ex F' H'
  newF : ∀ (a : Addr) (o : HO), F' a = some o → F a = some o ∨ H a = none
  frame : Frm T H (fun a => ∀ (i : Nat) (p : Bool) (xs : List PyData), as[i]? = some (.cel p xs) → vs[i]? ≠ some (.ref a)) H'
  cel : ∀ (i : Nat) (p : Bool) (xs : List PyData) (a : Addr), as[i]? = some (.cel p xs) → vs[i]? = some (.ref a) → ∃ ys us, as'[i]? = some (.cel true ys) ∧ F' a = none ∧ H' a = some (.lst us) ∧ DRs K F' us ys
  res : match r with
    | .un => False
    | .dat d => DR K F' v d
    | .cel _ xs => ∃ a us, v = .ref a ∧ F' a = none ∧ H' a = some (.lst us) ∧ DRs K F' us xs ∧ H a = none
    | .dic _ => False
def spD (T : List (Addr × Str)) (K : PySem.W.Frag) (S : DSp) (vs : List V) (H : Hp) (Q : VK) : Prop := ∃ (F : Hp) (as : List SD) (P : SD → List SD → Prop), ArgsOk T K F H vs as ∧ S as P ∧
  ∀ r as' v F' H', P r as' → PostOk T K F H vs as F' H' as' v r → Q v H'
/-- the def at f keeps its promise of data; n: its parameters; it raises nothing -/
structure FnG (P : Program) (w : World) (K : PySem.W.Frag) (mg : Str → Option Value) (base : Heap) (T : List (Addr × Str)) (k : Nat) (f : Addr) (fd : FuncData) (ps : List Str) (S : DSp) : Prop where
  len : ∀ as Q, S as Q → as.length = ps.length
  go : ∀ (A : Around) (outer : List Env) (s : Shared) (H : Hp) (args : Args) (us : List Value) (vs : List V) (Q : VK), Room k A → A.guards = some [] → Env0 P w K mg base A outer s H →
    BindsTo s fd args (ps.zip us) → Vals vs us → spD T K S vs H Q → codeAny (model P w) A (.call (.ref f) args) (CR CX0 outer P w H s Q E0) s
theorem FnG.mono {P : Program} {w : World} {K : PySem.W.Frag} {mg : Str → Option Value} {base : Heap} {j k : Nat} {f : Addr} {fd : FuncData} {ps : List Str} {S : DSp} (F : FnG P w K mg base T j f fd ps S) (h : j ≤ k) : FnG P w K mg base T k f fd ps S :=
  ⟨F.len, fun A outer s H args us vs Q hr => F.go A outer s H args us vs Q (hr.mono h)⟩
/-- another promise, that follows -/
theorem FnG.imp {P : Program} {w : World} {K : PySem.W.Frag} {mg : Str → Option Value} {base : Heap} {k : Nat} {f : Addr} {fd : FuncData} {ps : List Str} {S S' : DSp} (F : FnG P w K mg base T k f fd ps S) (h : ∀ as Q, S' as Q → S as Q) : FnG P w K mg base T k f fd ps S' :=
  ⟨fun as Q q => F.len as Q (h _ _ q), fun A outer s H args us vs Q hr hg e hb r ⟨F0, as, P, a1, a2, a3⟩ => F.go A outer s H args us vs Q hr hg e hb r ⟨F0, as, P, a1, h _ _ a2, a3⟩⟩
section
variable {K : PySem.W.Frag} {g : Gx Z} {F F' : Hp} {env : List SD} {σ : L2.St} {H H' : Hp}
/-- behind a call without cells -/
theorem Ok.after (k : Ok K g F env σ H) {vs : List V} {as as' : List SD} {v : V} {r : SD} (hc : ∀ (i : Nat) (p : Bool) (xs : List PyData), as[i]? ≠ some (.cel p xs)) (p : PostOk T K F H vs as F' H' as' v r) : Ok K g F' env σ H' ∧ ResOk K g F' env σ H' v r := by
  have fr : ∀ (a : Addr) (o : HO), H a = some o → Sty o (H' a) := fun a o e => p.frame.stay a o e fun i q xs z => absurd z (hc i q xs)
  have keepN : ∀ (a : Addr) (o : HO), H a = some o → F a = none → F' a = none := fun a o e n => by
    cases q : F' a with
    | none => rfl
    | some u =>
      rcases p.newF a u q with z | z
      · rw [n] at z; cases z
      · rw [e] at z; cases z
  refine ⟨⟨k.len, p.fh, fun i d e => ?_, fun i q xs e => ?_, k.sep, k.pin, k.frame.trans p.frame fun a o e n i q xs z => absurd z (hc i q xs), fun a o e => ?_, ⟨fun a o e => p.ex a o (k.oldF.1 a o e), p.nt⟩, fun a o e => ?_, (k.dic.keep p.ex (fun _ _ _ z => z) fun a ys e n => ⟨keepN a _ e n, (fr a _ e).ext.trans e.symm⟩)⟩, ?_⟩
  · obtain ⟨u, h1, h2⟩ := k.dat i d e
    exact ⟨u, h1, h2.mono p.ex⟩
  · obtain ⟨a, us, h1, h2, h3, h4, h5⟩ := k.cel i q xs e
    exact ⟨a, us, h1, keepN a _ h3 h2, (fr a _ h3).lst, h4.mono p.ex, h5⟩
  · rcases p.newF a o e with z | z
    · exact k.newF a o z
    · exact .inr (k.fresh0 z)
  · obtain ⟨z1, z2, z3⟩ := k.prot a o e
    exact ⟨(fr a _ z1).same (g.pl a o e), keepN a _ z1 z2, z3⟩
  · have pr := p.res
    cases r with
    | un => exact pr
    | dat d => exact pr
    | dic kvs => exact pr.elim
    | cel b xs =>
      obtain ⟨a, us, h1, h2, h3, h4, h5⟩ := pr
      refine ⟨a, us, h1, h2, h3, h4, k.fresh0 h5, ?_, fun j q ys e z => ?_⟩
      · cases e : g.Pr a with
        | none => rfl
        | some u =>
          have z := (k.prot a u e).1
          rw [h5] at z
          cases z
      · obtain ⟨a', ws, z1, _, z3, _⟩ := k.cel j q ys e
        rw [z] at z1
        cases z1
        rw [h5] at z3
        cases z3
/-- behind a call whose first argument is the cell of the name i -/
theorem Ok.afterC (k : Ok K g F env σ H) {i : Nat} {p : Bool} {xs : List PyData} {a : Addr} {vs : List V} {ds : List PyData} {as' : List SD} {v : V} {r : SD} (he : env[i]? = some (.cel p xs)) (hs : σ[i]? = some (some (.ref a)))
    (q : PostOk T K F H (.ref a :: vs) (.cel true xs :: ds.map .dat) F' H' as' v r) : ∃ ys rest, as' = .cel true ys :: rest ∧ Ok K g F' (env.set i (.cel p ys)) σ H' ∧ ResOk K g F' (env.set i (.cel p ys)) σ H' v r := by
  obtain ⟨a0, us0, b1, b2, b3, b4, b5, b6⟩ := k.cel i p xs he
  rw [hs] at b1
  cases b1
  obtain ⟨ys, us, c1, c2, c3, c4⟩ := q.cel 0 true xs a rfl rfl
  obtain ⟨rest, rfl⟩ : ∃ rest, as' = .cel true ys :: rest := by
    cases as' with
    | nil => simp at c1
    | cons x rest => simp at c1; subst c1; exact ⟨rest, rfl⟩
  have nc : ∀ (b : Addr), b ≠ a → ∀ (j : Nat) (p' : Bool) (xs' : List PyData), (SD.cel true xs :: ds.map SD.dat)[j]? = some (.cel p' xs') → (V.ref a :: vs)[j]? ≠ some (.ref b) := fun b ne j p' xs' z z2 => by
    cases j with
    | zero => simp at z2; exact ne z2.symm
    | succ j =>
      simp only [List.getElem?_cons_succ, List.getElem?_map] at z
      cases y : ds[j]? with
      | none => rw [y] at z; cases z
      | some d => rw [y] at z; cases z
  have fr : ∀ (b : Addr) (o : HO), H b = some o → b ≠ a → Sty o (H' b) := fun b o e ne => q.frame.stay b o e (nc b ne)
  have keepN : ∀ (b : Addr) (o : HO), H b = some o → F b = none → F' b = none := fun b o e n => by
    cases y : F' b with
    | none => rfl
    | some u =>
      rcases q.newF b u y with z | z
      · rw [n] at z; cases z
      · rw [e] at z; cases z
  have oth : ∀ {j : Nat} {p' : Bool} {zs : List PyData}, (env.set i (SD.cel p ys))[j]? = some (.cel p' zs) → ∃ p2 z2, env[j]? = some (.cel p2 z2) := fun {j p' zs} z => by
    rcases get_set z with ⟨rfl, _⟩ | ⟨_, z⟩
    · exact ⟨_, _, he⟩
    · exact ⟨_, _, z⟩
  refine ⟨ys, rest, rfl, ⟨by simp [k.len], q.fh, fun j d e => ?_, fun j p' zs e => ?_, fun j l p1 p2 z1 z2 c h1 h2 h3 h4 => ?_, fun j b e => ?_, k.frame.trans q.frame (fun b o e n => nc b ?_), fun b o e => ?_, ⟨fun b o e => q.ex b o (k.oldF.1 b o e), q.nt⟩, fun b o e => ?_, ((k.dic.setE (i := i) (x := .cel p ys) fun _ z => by cases z).keep q.ex (fun _ _ _ z => z) fun b zs e n => ⟨keepN b _ e n, (fr b _ e fun z => by rw [z, b3] at e; cases e).ext.trans e.symm⟩)⟩, ?_⟩
  · rcases get_set e with ⟨_, z⟩ | ⟨_, z⟩
    · cases z
    · obtain ⟨u, h1, h2⟩ := k.dat j d z
      exact ⟨u, h1, h2.mono q.ex⟩
  · rcases get_set e with ⟨rfl, z⟩ | ⟨n, z⟩
    · cases z
      exact ⟨a, us, hs, c2, c3, c4, b5, b6⟩
    · obtain ⟨b, ws, h1, h2, h3, h4, h5⟩ := k.cel j _ zs z
      have ne : b ≠ a := fun y => by
        subst y
        exact n (k.sep i j _ _ _ _ b he z hs h1)
      exact ⟨b, ws, h1, keepN b _ h3 h2, (fr b _ h3 ne).lst, h4.mono q.ex, h5⟩
  · obtain ⟨_, _, f1⟩ := oth h1
    obtain ⟨_, _, f2⟩ := oth h2
    exact k.sep j l _ _ _ _ c f1 f2 h3 h4
  · obtain ⟨zs, z⟩ := k.pin j b e
    by_cases n : i = j
    · subst n
      rw [he] at z
      cases z
      exact ⟨ys, set_eq he⟩
    · exact ⟨zs, by rw [set_ne n]; exact z⟩
  · intro z
    subst z
    cases p with
    | true => exact n i (b5 rfl)
    | false =>
      rw [b6 rfl] at e
      cases e
  · rcases q.newF b o e with z | z
    · exact k.newF b o z
    · exact .inr (k.fresh0 z)
  · obtain ⟨z1, z2, z3⟩ := k.prot b o e
    have ne : b ≠ a := fun z => by
      subst z
      exact z3 i p xs he hs
    refine ⟨(fr b _ z1 ne).same (g.pl b o e), keepN b _ z1 z2, fun j p' zs e' => ?_⟩
    obtain ⟨_, _, f1⟩ := oth e'
    exact z3 j _ _ f1
  · have pr := q.res
    cases r with
    | un => exact pr
    | dat d => exact pr
    | dic kvs => exact pr.elim
    | cel b xs2 =>
      obtain ⟨c, ws, h1, h2, h3, h4, h5⟩ := pr
      refine ⟨c, ws, h1, h2, h3, h4, k.fresh0 h5, ?_, fun j p' zs e z => ?_⟩
      · cases e : g.Pr c with
        | none => rfl
        | some u =>
          have z := (k.prot c u e).1
          rw [h5] at z
          cases z
      · obtain ⟨_, _, f1⟩ := oth e
        obtain ⟨a', ws', z1, _, z3, _⟩ := k.cel j _ _ f1
        rw [z] at z1
        cases z1
        rw [h5] at z3
        cases z3
theorem args_dat (hf : Ex F H) (tb : LamX.Tabs T H) (nt : ∀ a ps, F a ≠ some (.tbl ps)) {vs : List V} {ds : List PyData} (r : DRs K F vs ds) : ArgsOk T K F H vs (ds.map .dat) where
  len := by rw [List.length_map]; exact r.length.symm
  fh := hf
  dat := fun i d e => by
    rw [List.getElem?_map] at e
    cases q : ds[i]? with
    | none => rw [q] at e; cases e
    | some x =>
      rw [q] at e
      cases e
      exact r.get q
  cel := fun i p xs e => by
    rw [List.getElem?_map] at e
    cases q : ds[i]? with
    | none => rw [q] at e; cases e
    | some x => rw [q] at e; cases e
  sep := fun i j p q xs ys a e => by
    rw [List.getElem?_map] at e
    cases q : ds[i]? with
    | none => rw [q] at e; cases e
    | some x => rw [q] at e; cases e
  nod := fun i kvs e => by
    rw [List.getElem?_map] at e
    cases q : ds[i]? with
    | none => rw [q] at e; cases e
    | some x => rw [q] at e; cases e
  tab := tb
  nt := nt
theorem no_cel {ds : List PyData} (i : Nat) (p : Bool) (xs : List PyData) : (ds.map SD.dat)[i]? ≠ some (.cel p xs) := fun e => by
  rw [List.getElem?_map] at e
  cases q : ds[i]? with
  | none => rw [q] at e; cases e
  | some x => rw [q] at e; cases e
theorem args_cel (hf : Ex F H) (tb : LamX.Tabs T H) (nt : ∀ a ps, F a ≠ some (.tbl ps)) {a : Addr} {us : List V} {xs : List PyData} {vs : List V} {ds : List PyData} (hF : F a = none) (hH : H a = some (.lst us)) (rx : DRs K F us xs) (r : DRs K F vs ds) : ArgsOk T K F H (.ref a :: vs) (.cel true xs :: ds.map .dat) := by
  have b := args_dat hf tb nt r
  refine ⟨by simp [r.length], hf, fun i d e => ?_, fun i p zs e => ?_, fun i j p q zs ys c e1 e2 _ _ => ?_, fun i kvs e => ?_, tb, nt⟩
  · cases i with
    | zero => simp at e
    | succ i =>
      obtain ⟨v, h1, h2⟩ := b.dat i d (by simpa using e)
      exact ⟨v, by simpa using h1, h2⟩
  · cases i with
    | zero =>
      simp at e
      obtain ⟨rfl, rfl⟩ := e
      exact ⟨rfl, a, us, rfl, hF, hH, rx⟩
    | succ i => exact absurd (by simpa using e) (no_cel (ds := ds) i p zs)
  · cases i with
    | succ i => exact absurd (by simpa using e1) (no_cel (ds := ds) i p zs)
    | zero =>
      cases j with
      | zero => rfl
      | succ j => exact absurd (by simpa using e2) (no_cel (ds := ds) j q ys)
  · cases i with
    | zero => simp at e
    | succ i => exact b.nod i kvs (by simpa using e)
end

section
variable {X : Cx} {k : Nat} {f : Addr} {fd : FuncData} {ps : List Str} {S : DSp} {x : Str} {p pos : Pos} {e : Expr} {es : List Expr} {was : DA}
/-- the callee runs -/
theorem run_g {pins : List (Addr × Obj)} {σ : L2.St} {H : Hp} {s : Shared} {Q : VK} {us : List Value} {vs : List V} (G : FnG X.prog X.w X.K X.mg X.base T k f fd ps S) (hr : Room k X.A) (hg : X.A.guards = some []) (hb : Binds X.K fd ps [])
    (I : Inv X pins σ H s) (r : Vals vs us) (h : spD T X.K S vs H Q) : wpAny (model X.prog X.w) X.A (call (.ref f) us) (EP X pins σ Q) X.xe s := by
  obtain ⟨F0, as, P, a1, a2, a3⟩ := id h
  have hl : (us ++ ([] : List Value)).length = ps.length := by rw [List.append_nil, ← r.length, ← a1.len]; exact G.len _ _ a2
  have hbb := hb s us I.kIn hl
  rw [List.append_nil] at hbb
  refine wpAny_call (codeAny_mono (G.go X.A X.stack s H ⟨us, []⟩ us vs Q hr hg I.env0 hbb r h) fun res s' hq => ?_)
  match res, hq with
  | .error e, hq => exact hq.elim
  | .ok (.ret u), hq => exact I.after hq
  | .ok .next, hq => exact hq.elim
  | .ok .brk, hq => exact hq.elim
  | .ok .cont, hq => exact hq.elim
/-- f(..), all arguments data -/
abbrev dCall (S : DSp) (was : DA) (env : List SD) (P : SD → List SD → Prop) : Prop := was env fun ds env1 => S (ds.map .dat) fun r _ => P r env1
theorem dcall (G : FnG X.prog X.w X.K X.mg X.base T k f fd ps S) (hr : Room k X.A) (hA : X.A.guards = some []) (hm : X.mg x = some (.ref f)) (hk : PySem.W.keepIn X.K (.ref f) = true) (hb : Binds X.K fd ps [])
    (ha : PA X (e :: es) (liftA X.K Z was)) (hg : Gl X x := by rfl) (hdb : (x == ("__debug__" : Str)) = false := by decide)
    (he : starEach (e :: es) X.env = (false, eval e X.env) :: starEach es X.env := by rfl) (hpl : (backTo pos (starEach es X.env)).any (·.1) = false := by rfl) : PE X (.Call (.Name x p) (e :: es) [] pos) (liftX X.K Z (dCall S was)) := by
  refine ⟨fun pins s σ H Q I ⟨g, F, env, P, k0, w, q⟩ => wpAny_Call_Name_kw (ld_glob I hg hm (PySem.W.callWith_K (h₀ := X.base) I.ok.mod.kin hk (thn (ha.run pos pins s σ H (spD T X.K S · · Q) I ?_) fun us s1 ⟨vs, H1, I1, r, q1⟩ => ⟨I1.kIn, run_g G hr hA hb I1 r q1⟩) he hpl) hdb)⟩
  refine ⟨g, F, env, _, k0, w, fun ds env1 vs F1 H1 p1 e1 k1 r1 => ⟨F1, ds.map .dat, _, args_dat k1.fh k1.frame.tab k1.oldF.2 r1, p1, fun r as' v F2 H2 p2 po => ?_⟩⟩
  obtain ⟨k2, r2⟩ := k1.after no_cel po
  exact q r env1 v F2 H2 p2 (e1.trans po.ex) k2 r2
/-- f(x, ..), x the name i's own cell, which f may change -/
abbrev dCallC (S : DSp) (i : Nat) (was : DA) (env : List SD) (P : SD → List SD → Prop) : Prop := match env[i]? with
  | some (.cel _ _) => was env fun ds env1 => match env1[i]? with
    | some (.cel p xs) => S (.cel true xs :: ds.map .dat) fun r as' => match as' with
      | .cel _ ys :: _ => P r (env1.set i (.cel p ys))
      | _ => False
    | _ => False
  | _ => False
theorem dcallC (i : Nat) {y : Str} {p0 : Pos} (G : FnG X.prog X.w X.K X.mg X.base T k f fd ps S) (hr : Room k X.A) (hA : X.A.guards = some []) (hm : X.mg x = some (.ref f)) (hk : PySem.W.keepIn X.K (.ref f) = true) (hb : Binds X.K fd ps [])
    (ha : PA X es (liftA X.K Z was)) (hN : X.N[i]? = some y := by rfl) (hv : Vis X.env.scope y := by first | exact Or.inl rfl | exact Or.inr (Or.inl rfl) | exact Or.inr (Or.inr rfl)) (hd : (y == ("__debug__" : Str)) = false := by decide)
    (hcd : (y == ("__classdict__" : Str)) = false := by decide) (hg : Gl X x := by rfl) (hdb : (x == ("__debug__" : Str)) = false := by decide)
    (he : starEach (.Name y p0 :: es) X.env = (false, eval (.Name y p0) X.env) :: starEach es X.env := by rfl) (hpl : (backTo pos (starEach es X.env)).any (·.1) = false := by rfl) :
    PE X (.Call (.Name x p) (.Name y p0 :: es) [] pos) (liftX X.K Z (dCallC S i was)) := by
  refine ⟨fun pins s σ H Q I ⟨g, F, env, P, k0, w, q⟩ => wpAny_Call_Name_kw (ld_glob I hg hm (PySem.W.callWith_K (h₀ := X.base) I.ok.mod.kin hk (thn ((pa_cons (pe_var hN hv hd hcd) ha he).run pos pins s σ H (spD T X.K S · · Q) I ?_) fun us s1 ⟨vs, H1, I1, r, q1⟩ => ⟨I1.kIn, run_g G hr hA hb I1 r q1⟩) he hpl) hdb)⟩
  unfold dCallC at w
  split at w
  · rename_i p' xs' e0
    obtain ⟨a0, us0, b1, _⟩ := k0.cel i p' xs' e0
    refine ⟨_, b1, g, F, env, _, k0, w, fun ds env1 vs F1 H1 p1 e1 k1 r1 => ?_⟩
    split at p1
    · rename_i p2 xs ex
      obtain ⟨a1, us1, c1, c2, c3, c4, _⟩ := k1.cel i p2 xs ex
      rw [b1] at c1
      cases c1
      refine ⟨F1, _, _, args_cel k1.fh k1.frame.tab k1.oldF.2 c2 c3 c4 r1, p1, fun r as' v F2 H2 p3 po => ?_⟩
      obtain ⟨ys, rest, rfl, k2, r2⟩ := k1.afterC ex b1 po
      exact q r _ v F2 H2 p3 (e1.trans po.ex) k2 r2
    · exact p1.elim
  · exact w.elim
end

structure DEnds where
  nx : List SD → Prop
  rt : SD → List SD → Prop
  bk : List SD → Prop := fun _ => False
  ct : List SD → Prop := fun _ => False
  nol : Bool := false
abbrev DS := DEnds → List SD → Prop
structure Ends4 (K : PySem.W.Frag) (m : Nat) (g : Gx Z) (F : Hp) (P : DEnds) (D : Ends) : Prop where
  nx : ∀ env' σ' F' H', P.nx env' → Ex F F' → Ok K g F' env' σ' H' → D.nx σ' H'
  bk : ∀ env' σ' F' H', P.bk env' → Ex F F' → Ok K g F' env' σ' H' → D.bk σ' H'
  ct : ∀ env' σ' F' H', P.ct env' → Ex F F' → Ok K g F' env' σ' H' → D.ct σ' H'
  rt : ∀ r env' v σ' F' H', P.rt r (env'.take m) → Ex F F' → Ok K g F' env' σ' H' → ResOk K g F' env' σ' H' v r → D.rt v H'
/-- P.nol: no list stood at the def's begin -/
structure EndsOk (K : PySem.W.Frag) (m : Nat) (g : Gx Z) (F : Hp) (P : DEnds) (D : Ends) : Prop extends Ends4 K m g F P D where
  free : P.nol = true → (∀ a, g.F0 a = none) ∧ ∀ F', Ends4 K m g F' P D
theorem EndsOk.four {K : PySem.W.Frag} {m : Nat} {g : Gx Z} {F : Hp} {P : DEnds} {D : Ends} (h : EndsOk K m g F P D) : Ends4 K m g F P D := h.toEnds4
theorem EndsOk.any {K : PySem.W.Frag} {m : Nat} {g : Gx Z} {F : Hp} {P : DEnds} {D : Ends} (h : EndsOk K m g F P D) (n : P.nol = true) (F' : Hp) : EndsOk K m g F' P D := ⟨(h.free n).2 F', h.free⟩
theorem EndsOk.mk4 {K : PySem.W.Frag} {m : Nat} {g : Gx Z} {F : Hp} {P : DEnds} {D : Ends} (h : Ends4 K m g F P D) (n : P.nol = false) : EndsOk K m g F P D := ⟨h, fun z => by rw [n] at z; cases z⟩
def liftS (K : PySem.W.Frag) (Z : Zx T) (m : Nat) (w : DS) : TS := fun D σ H => ∃ (g : Gx Z) (F : Hp) (env : List SD) (P : DEnds), Ok K g F env σ H ∧ w P env ∧ EndsOk K m g F P D
theorem EndsOk.ex {K : PySem.W.Frag} {m : Nat} {g : Gx Z} {F F' : Hp} {P : DEnds} {D : Ends} (h : EndsOk K m g F P D) (e : Ex F F') : EndsOk K m g F' P D :=
  ⟨⟨fun a b c d p x => h.nx a b c d p (e.trans x), fun a b c d p x => h.bk a b c d p (e.trans x), fun a b c d p x => h.ct a b c d p (e.trans x), fun a b c d f g' p x => h.rt a b c d f g' p (e.trans x)⟩, h.free⟩
section
variable {X : Cx} {st : Stmt} {sts : List Stmt} {w w2 : DS} {m : Nat} {e : Expr} {we : DE} {wx : DX} {pos : Pos}
abbrev dNext (E : DEnds) (env : List SD) : Prop := E.nx env
abbrev dSeq (w w2 : DS) (E : DEnds) (env : List SD) : Prop := w { E with nx := w2 E } env
theorem snil : PSs X [] (liftS X.K Z m dNext) := PSs.of pss_nil fun D σ H ⟨g, F, env, P, k, w, q⟩ => q.nx env σ F H w (Ex.refl F) k
theorem scons (h1 : PS X st (liftS X.K Z m w)) (h2 : PSs X sts (liftS X.K Z m w2)) : PSs X (st :: sts) (liftS X.K Z m (dSeq w w2)) := PSs.of (pss_cons h1 h2) fun D σ H ⟨g, F, env, P, k, w, q⟩ =>
  ⟨g, F, env, _, k, w, ⟨⟨fun env' σ' F' H' p e k' => ⟨g, F', env', P, k', p, q.ex e⟩, q.bk, q.ct, q.rt⟩, fun n => ⟨(q.free n).1, fun F2 => ⟨fun env' σ' F' H' p e k' => ⟨g, F', env', P, k', p, q.any n F'⟩, ((q.free n).2 F2).bk, ((q.free n).2 F2).ct, ((q.free n).2 F2).rt⟩⟩⟩⟩
theorem sone (h1 : PS X st (liftS X.K Z m w)) : PSs X [st] (liftS X.K Z m w) := pss_one h1
/-- a name that is no parameter's cell -/
def npB : SD → Bool
  | .cel true _ => false
  | _ => true
def noPar (env : List SD) (i : Nat) : Bool := match env[i]? with
  | some r => npB r
  | none => true
theorem noPar_of {env : List SD} {i : Nat} (h : noPar env i = true) : NoPar env i := fun xs e => by
  unfold noPar at h
  rw [e] at h
  cases h
theorem Ok.setR {K : PySem.W.Frag} {g : Gx Z} {F : Hp} {env : List SD} {σ : L2.St} {H : Hp} {i : Nat} {v : V} {r : SD} (k : Ok K g F env σ H) (hp : noPar env i = true) (h : ResOk K g F env σ H v r) (hr : ∀ xs, r ≠ .cel true xs) : Ok K g F (env.set i r) (σ.set i (some v)) H := by
  cases r with
  | un => exact h.elim
  | dat d => exact k.setD (noPar_of hp) h
  | cel b xs =>
    obtain ⟨a, vs, rfl, h1, h2, h3, h4, h5, h6⟩ := h
    cases b with
    | true => exact absurd rfl (hr xs)
    | false => exact k.setC (noPar_of hp) h1 h2 h3 h4 h5 h6
  | dic kvs => exact h.elim
/-- what a new cell is called -/
def asOwn : SD → SD
  | .cel _ xs => .cel false xs
  | r => r
theorem res_own {K : PySem.W.Frag} {g : Gx Z} {F : Hp} {env : List SD} {σ : L2.St} {H : Hp} {v : V} {r : SD} (h : ResOk K g F env σ H v r) : ResOk K g F env σ H v (asOwn r) := by
  cases r <;> exact h
theorem own_ne {r : SD} (xs : List PyData) : asOwn r ≠ .cel true xs := by
  cases r <;> (intro h; cases h)
/-- name = e -/
abbrev dSet (i : Nat) (wx : DX) (E : DEnds) (env : List SD) : Prop := wx env fun r env1 => bIf (noPar env1 i) (E.nx (env1.set i (asOwn r))) False
theorem sset (i : Nat) {x : Str} {pos' : Pos} (hN : X.N.Nodup) (he : PE X e (liftX X.K Z wx)) (hi : X.N[i]? = some x := by rfl) (hx : Loc X.env.scope x := by first | exact Or.inl rfl | exact Or.inr rfl) (hs : swapsWith e (some (.Name x pos')) pos.line X.env = pure false := by rfl)
    (hf : X.fn x = true ∨ X.env.scope.names.lookup x = some .local := by first | exact .inl rfl | exact .inr rfl) : PS X (.Assign [.Name x pos'] e pos) (liftS X.K Z m (dSet i wx)) := PS.of (ps_set hN hi hx he hs hf) fun D σ H ⟨g, F, env, P, k, w, q⟩ =>
  ⟨g, F, env, _, k, w, fun r env1 v F1 H1 p e1 k1 r1 => q.nx _ _ F1 H1 (bIf_and p).2 e1 (k1.setR (bIf_and p).1 (res_own r1) own_ne)⟩
/-- return e -/
abbrev dRet (m : Nat) (wx : DX) (E : DEnds) (env : List SD) : Prop := wx env fun r env1 => E.rt (asOwn r) (env1.take m)
theorem sret (he : PE X e (liftX X.K Z wx)) : PS X (.Return (some e) pos) (liftS X.K Z m (dRet m wx)) := PS.of (ps_ret he) fun D σ H ⟨g, F, env, P, k, w, q⟩ =>
  ⟨g, F, env, _, k, w, fun r env1 v F1 H1 p e1 k1 r1 => q.rt _ env1 v σ F1 H1 p e1 k1 (res_own r1)⟩
/-- an expression for what it does -/
abbrev dDrop (wx : DX) (E : DEnds) (env : List SD) : Prop := wx env fun _ env1 => E.nx env1
theorem sexpr (he : PE X e (liftX X.K Z wx)) (hs : swapsWith e none pos.line X.env = pure false := by rfl) : PS X (.Expr e pos) (liftS X.K Z m (dDrop wx)) := PS.of (ps_expr he hs) fun D σ H ⟨g, F, env, P, k, w, q⟩ =>
  ⟨g, F, env, _, k, w, fun r env1 v F1 H1 p e1 k1 _ => q.nx env1 σ F1 H1 p e1 k1⟩
abbrev dIfS (t : DT) (w w2 : DS) (E : DEnds) (env : List SD) : Prop := t env fun b env1 => bIf b (w E env1) (w2 E env1)
theorem sif {c : Expr} {a b : List Stmt} {t : DT} (hc : PT X c (liftT X.K Z t)) (ha : PSs X a (liftS X.K Z m w)) (hb : PSs X b (liftS X.K Z m w2)) : PS X (.If c a b pos) (liftS X.K Z m (dIfS t w w2)) := PS.of (ps_if hc ha hb) fun D σ H ⟨g, F, env, P, k, w, q⟩ =>
  ⟨g, F, env, _, k, w, fun b env1 F1 H1 p e1 k1 => by
    cases b with
    | true => exact iteT ⟨g, F1, env1, P, k1, p, q.ex e1⟩
    | false => exact iteF ⟨g, F1, env1, P, k1, p, q.ex e1⟩⟩
theorem Ok.drop {K : PySem.W.Frag} {g : Gx Z} {F : Hp} {env : List SD} {σ : L2.St} {H : Hp} {i : Nat} {xs : List PyData} (k : Ok K g F env σ H) (he : env[i]? = some (.cel false xs)) : ∃ a, σ[i]? = some (some (.ref a)) ∧ Ok K g F (env.set i .un) σ H ∧ ResOk K g F (env.set i .un) σ H (.ref a) (.cel false xs) := by
  obtain ⟨a, vs, h1, h2, h3, h4, _, h6⟩ := k.cel i false xs he
  have np : NoPar env i := fun ys z => by rw [he] at z; cases z
  have k2 := k.setU (o := some (.ref a)) np
  have e : σ.set i (some (.ref a)) = σ := List.ext_getElem? fun j => by
    rw [List.getElem?_set]
    split
    · rename_i z
      subst z
      split
      · exact h1.symm
      · rename_i z
        exact absurd (List.getElem?_eq_some_iff.mp h1).1 z
    · rfl
  rw [e] at k2
  refine ⟨a, h1, k2, a, vs, rfl, h2, h3, h4, h6 rfl, ?_, fun j p ys hj z => ?_⟩
  · cases q : g.Pr a with
    | none => rfl
    | some u => exact absurd h1 ((k.prot a u q).2.2 i false xs he)
  · rcases get_set hj with ⟨_, q⟩ | ⟨n, q⟩
    · cases q
    · exact n (k.sep i j _ _ _ _ a he q h1 z)
/-- slots that are not to be known any more -/
def unS : List Nat → List SD → List SD
  | [], env => env
  | i :: is, env => match env[i]? with
    | some (.dat _) => unS is (env.set i .un)
    | some (.cel false _) => unS is (env.set i .un)
    | _ => unS is env
theorem Ok.unS {K : PySem.W.Frag} {g : Gx Z} {F : Hp} {σ : L2.St} {H : Hp} : ∀ {is : List Nat} {env : List SD}, Ok K g F env σ H → Ok K g F (unS is env) σ H
  | [], _, k => k
  | i :: is, env, k => by
    have go : NoPar env i → Ok K g F (env.set i .un) σ H := fun np => by
      by_cases hi : i < σ.length
      · have k2 := k.setU (o := σ[i]) np
        rw [List.set_getElem_self] at k2
        exact k2
      · have k2 := k.setU (o := none) np
        rw [show σ.set i none = σ from List.set_eq_of_length_le (Nat.le_of_not_lt hi)] at k2
        exact k2
    unfold DL.unS
    split
    · rename_i d e
      exact (go fun xs z => by rw [e] at z; cases z).unS
    · rename_i xs e
      exact (go fun ys z => by rw [e] at z; cases z).unS
    · exact k.unS
abbrev dForget (is : List Nat) (w : DS) (E : DEnds) (env : List SD) : Prop := w E (unS is env)
theorem ssforget (is : List Nat) (h : PSs X sts (liftS X.K Z m w)) : PSs X sts (liftS X.K Z m (dForget is w)) := PSs.of h fun D σ H ⟨g, F, env, P, k, w, q⟩ => ⟨g, F, _, P, k.unS, w, q⟩
end
end DL

namespace DL
variable {T : List (PySem.Addr × PySem.Str)} {Z : Zx T}
open PySem PySem.Spec PyProof.Rows L2
open Evl (Ex)

section
variable {X : Cx} {st : Stmt} {sts : List Stmt} {w w2 : DS} {m : Nat} {a b e : Expr} {es : List Expr} {wa wb we : DE} {wx : DX} {pos : Pos} {was : DA}
abbrev DG := PyData → List SD → (List SD → Prop) → Prop
/-- what goes to a target; with b (a tuple as the target) the tuple's object needn't be known -/
def DRw (K : PySem.W.Frag) (b : Bool) (F : Hp) (v : V) (d : PyData) : Prop := DR K F v d ∨ (b = true ∧ ∃ T xs ds, v = .ref T ∧ d = .tuple ds ∧ SqT K F T xs ∧ DRs K F xs ds)
theorem DRw.tup {K : PySem.W.Frag} {b : Bool} {F : Hp} {v : V} {ds : List PyData} (h : DRw K b F v (.tuple ds)) : ∃ a xs, v = .ref a ∧ SqT K F a xs ∧ DRs K F xs ds := by
  rcases h with h | ⟨_, T, xs, es, h1, h2, h3, h4⟩
  · exact h.inv_tup
  · cases h2
    exact ⟨T, xs, h1, h3, h4⟩
theorem DRw.non {K : PySem.W.Frag} {F : Hp} {v : V} {d : PyData} (h : DRw K false F v d) : DR K F v d := by
  rcases h with h | ⟨h, _⟩
  · exact h
  · cases h
def liftG (K : PySem.W.Frag) (Z : Zx T) (b : Bool) (w : DG) : TG := fun v σ H Q => ∃ (g : Gx Z) (F : Hp) (env : List SD) (d : PyData) (P : List SD → Prop), Ok K g F env σ H ∧ DRw K b F v d ∧ w d env P ∧
  ∀ env' σ' F' H', P env' → Ex F F' → Ok K g F' env' σ' H' → Q σ' H'
abbrev DGs := List PyData → List SD → (List SD → Prop) → Prop
def liftGs (K : PySem.W.Frag) (Z : Zx T) (w : DGs) : TGs := fun vs σ H Q => ∃ (g : Gx Z) (F : Hp) (env : List SD) (ds : List PyData) (P : List SD → Prop), Ok K g F env σ H ∧ DRs K F vs ds ∧ w ds env P ∧
  ∀ env' σ' F' H', P env' → Ex F F' → Ok K g F' env' σ' H' → Q σ' H'
theorem PG.of {t t' : TG} (h : PG X e t) (w : ∀ v σ H Q, t' v σ H Q → t v σ H Q) : PG X e t' := ⟨fun pins s σ H v u Q I r q => h.run pins s σ H v u Q I r (w v σ H Q q)⟩
theorem PGs.of {t t' : TGs} (h : PGs X es t) (w : ∀ v σ H Q, t' v σ H Q → t v σ H Q) : PGs X es t' := ⟨fun pins s σ H v u Q I r q => h.run pins s σ H v u Q I r (w v σ H Q q)⟩
def dgN (i : Nat) (d : PyData) (env : List SD) (P : List SD → Prop) : Prop := bIf (noPar env i) (P (env.set i (.dat d))) False
theorem gn (i : Nat) {x : Str} (hN : X.N.Nodup) (hi : X.N[i]? = some x := by rfl) (hx : Loc X.env.scope x := by first | exact Or.inl rfl | exact Or.inr rfl)
    (hf : X.fn x = true ∨ X.env.scope.names.lookup x = some .local := by first | exact .inl rfl | exact .inr rfl) : PG X (.Name x pos) (liftG X.K Z false (dgN i)) := PG.of (pg_name hN hi hx hf) fun v σ H Q ⟨g, F, env, d, P, k, r, w, q⟩ =>
  q _ _ F H (bIf_and w).2 (Ex.refl F) (k.setD (noPar_of (bIf_and w).1) r.non)
def nilQ (ds : List PyData) (p : Prop) : Prop := match ds with
  | [] => p
  | _ :: _ => False
def consQ (ds : List PyData) (K : PyData → List PyData → Prop) : Prop := match ds with
  | d :: r => K d r
  | [] => False
def tupQ (d : PyData) (K : List PyData → Prop) : Prop := match d with
  | .tuple ds => K ds
  | _ => False
theorem nilQ_inv {ds : List PyData} {p : Prop} (h : nilQ ds p) : ds = [] ∧ p := by
  cases ds
  · exact ⟨rfl, h⟩
  · exact h.elim
theorem consQ_inv {ds : List PyData} {K : PyData → List PyData → Prop} (h : consQ ds K) : ∃ d r, ds = d :: r ∧ K d r := by
  cases ds
  · exact h.elim
  · exact ⟨_, _, rfl, h⟩
theorem tupQ_inv {d : PyData} {K : List PyData → Prop} (h : tupQ d K) : ∃ ds, d = .tuple ds ∧ K ds := by
  cases d <;> first | exact ⟨_, rfl, h⟩ | exact h.elim
def dgNil (ds : List PyData) (env : List SD) (P : List SD → Prop) : Prop := nilQ ds (P env)
def dgCons (t : DG) (u : DGs) (ds : List PyData) (env : List SD) (P : List SD → Prop) : Prop := consQ ds fun d r => t d env fun env1 => u r env1 P
theorem gnil : PGs X [] (liftGs X.K Z dgNil) := PGs.of pgs_nil fun v σ H Q ⟨g, F, env, ds, P, k, r, w, q⟩ => by
  obtain ⟨rfl, w⟩ := nilQ_inv w
  cases r
  exact ⟨rfl, q env σ F H w (Ex.refl F) k⟩
theorem gcons {t : DG} {u : DGs} {bb : Bool} (h1 : PG X e (liftG X.K Z bb t)) (h2 : PGs X es (liftGs X.K Z u)) (hs : (assignEach (e :: es) X.env).map (·.2) = assign e X.env :: (assignEach es X.env).map (·.2) := by rfl) : PGs X (e :: es) (liftGs X.K Z (dgCons t u)) :=
  PGs.of (pgs_cons h1 h2 hs) fun v σ H Q ⟨g, F, env, ds, P, k, r, w, q⟩ => by
    obtain ⟨d, r0, rfl, w⟩ := consQ_inv w
    cases r with
    | cons r1 r2 =>
        exact ⟨_, _, rfl, g, F, env, _, _, k, .inl r1, w, fun env1 σ1 F1 H1 p e1 k1 => ⟨g, F1, env1, _, P, k1, r2.mono e1, p, fun env2 σ2 F2 H2 p2 e2 k2 => q env2 σ2 F2 H2 p2 (e1.trans e2) k2⟩⟩
def dgT (n : Nat) (t : DGs) (d : PyData) (env : List SD) (P : List SD → Prop) : Prop := tupQ d fun ds => t ds env P
/-- a target that takes a datum goes on -/
def GOk (t : DG) : Prop := ∀ d env P, t d env P → ∃ env1, P env1
def GLen (t : DGs) (n : Nat) : Prop := ∀ ds env P, t ds env P → ds.length = n ∧ ∃ env1, P env1
theorem gok_n {i : Nat} : GOk (dgN i) := fun d env P h => ⟨_, (bIf_and h).2⟩
theorem gl_nil : GLen dgNil 0 := fun ds env P h => by
  obtain ⟨rfl, h⟩ := nilQ_inv h
  exact ⟨rfl, env, h⟩
theorem gl_cons {t : DG} {u : DGs} {n : Nat} (h1 : GOk t) (h2 : GLen u n) : GLen (dgCons t u) (n + 1) := fun ds env P h => by
  obtain ⟨d, r, rfl, h⟩ := consQ_inv h
  obtain ⟨env1, h⟩ := h1 _ _ _ h
  obtain ⟨e, h⟩ := h2 _ _ _ h
  exact ⟨by simp [e], h⟩
theorem gtup {k n : Nat} {t : DGs} (hl : GLen t n) (hc : X.calm = true) (h : PGs X es (liftGs X.K Z t)) (hn : (assignEach es X.env).length = n := by rfl) (hst : (assignEach es X.env).findIdx? (·.1) = none := by rfl) : PG X (.Tuple es k pos) (liftG X.K Z true (dgT n t)) :=
  PG.of (pg_tup hc h hn hst) fun v σ H Q ⟨g, F, env, d, P, k, r, w, q⟩ => by
    obtain ⟨ds, rfl, w⟩ := tupQ_inv w
    obtain ⟨a, xs, rfl, h1, h2⟩ := r.tup
    exact ⟨a, xs, rfl, Evl.ex_t k.fh h1, h2.length.trans (hl _ _ _ w).1, g, F, env, _, P, k, h2, w, q⟩
/-- target = e, of a datum -/
abbrev dAsg (t : DG) (we : DE) (E : DEnds) (env : List SD) : Prop := we env fun d env1 => t d env1 E.nx
theorem sasg {tg : Expr} {t : DG} {bb : Bool} (he : PE X e (liftE X.K Z we)) (hg : PG X tg (liftG X.K Z bb t)) (hs : swapsWithSole [tg] e pos.line X.env = pure false := by rfl) (hw : swappedStores [tg] e X.env = pure none := by rfl)
    (h1 : (assignEach [tg] X.env).map (·.2) = [assign tg X.env] := by rfl) : PS X (.Assign [tg] e pos) (liftS X.K Z m (dAsg t we)) := PS.of (ps_asg he hg hs hw h1) fun D σ H ⟨g, F, env, P, k, w, q⟩ =>
  ⟨g, F, env, _, k, w, fun d env1 v F1 H1 p e1 k1 r1 => ⟨g, F1, env1, d, _, k1, .inl r1, p, fun env2 σ2 F2 H2 p2 e2 k2 => q.nx env2 σ2 F2 H2 p2 (e1.trans e2) k2⟩⟩
/-- x[i] = e, x the name's own cell -/
def stQ (xs : List PyData) (y d : PyData) (K : List PyData → Prop) : Prop := match y with
  | .int n => (match ixN xs.length n with
    | some j => K (xs.set j d)
    | none => False)
  | _ => False
abbrev dSetC (i : Nat) (wi we : DE) (E : DEnds) (env : List SD) : Prop := we env fun d env1 => match env1[i]? with
  | some (.cel _ _) => wi env1 fun y env2 => match env2[i]? with
    | some (.cel p xs) => stQ xs y d fun xs' => E.nx (env2.set i (.cel p xs'))
    | _ => False
  | _ => False
theorem ssetC (i : Nat) {x : Str} {p0 p1 : Pos} (he : PE X e (liftE X.K Z we)) (hi : PE X b (liftE X.K Z wb)) (hN : X.N[i]? = some x := by rfl) (hv : Vis X.env.scope x := by first | exact Or.inl rfl | exact Or.inr (Or.inl rfl) | exact Or.inr (Or.inr rfl)) (hd : (x == ("__debug__" : Str)) = false := by decide)
    (hcd : (x == ("__classdict__" : Str)) = false := by decide)
    (hs : swapsWithSole [.Subscript (.Name x p0) b p1] e pos.line X.env = pure false := by rfl) (hw : swappedStores [.Subscript (.Name x p0) b p1] e X.env = pure none := by rfl)
    (h1 : (assignEach [.Subscript (.Name x p0) b p1] X.env).map (·.2) = [assign (.Subscript (.Name x p0) b p1) X.env] := by rfl)
    (ha : ∀ v, assign (.Subscript (.Name x p0) b p1) X.env v = (do
      let ov ← holding [v] (eval (.Name x p0) X.env)
      let iv ← holding [v, ov] (eval b X.env)
      standAt p1
      holding [v, ov, iv] (setItem ov iv v)
      release [v, ov, iv] []) := by intro _; rfl) : PS X (.Assign [.Subscript (.Name x p0) b p1] e pos) (liftS X.K Z m (dSetC i wb we)) :=
  PS.of (ps_asg he (pg_sub (pe_var hN hv hd hcd) hi set_list ha) hs hw h1) fun D σ H ⟨g, F, env, P, k, w, q⟩ =>
  ⟨g, F, env, _, k, w, fun d env1 v F1 H1 p e1 k1 r1 => by
    split at p
    · rename_i p' xs' ex
      obtain ⟨a0, us0, b1, _⟩ := k1.cel i p' xs' ex
      refine ⟨_, b1, g, F1, env1, _, k1, p, fun d2 env2 v2 F2 H2 p2 e2 k2 r2 => ?_⟩
      split at p2
      · rename_i p3 xs ex2
        obtain ⟨n, rfl, p2⟩ : ∃ n, d2 = .int n ∧ stQ xs (.int n) d _ := by
          cases d2 <;> first | exact ⟨_, rfl, p2⟩ | exact p2.elim
        cases r2.inv_int
        unfold stQ at p2
        dsimp only at p2
        split at p2
        · rename_i j ej
          obtain ⟨a1, us1, c1, c2, c3, c4, _⟩ := k2.cel i p3 xs ex2
          rw [b1] at c1
          cases c1
          exact ⟨a0, us1, n, j, rfl, rfl, c3, by rw [c4.length]; exact ej, q.nx _ σ F2 _ p2 (e1.trans e2) (k2.write ex2 b1 (c4.set j (r1.mono e2)))⟩
        · exact p2.elim
      · exact p2.elim
    · exact p.elim⟩
/-- x.append(e) -/
def apQ (xs : List PyData) (d : PyData) (K : List PyData → Prop) : Prop := xs.length < 100000 ∧ K (xs ++ [d])
abbrev dApp (i : Nat) (we : DE) (E : DEnds) (env : List SD) : Prop := match env[i]? with
  | some (.cel _ _) => we env fun d env1 => match env1[i]? with
    | some (.cel p xs) => apQ xs d fun xs' => E.nx (env1.set i (.cel p xs'))
    | _ => False
  | _ => False
theorem sapp (i : Nat) {x : Str} {p0 apos cpos : Pos} (he : PE X e (liftE X.K Z we)) (hN : X.N[i]? = some x := by rfl) (hv : Vis X.env.scope x := by first | exact Or.inl rfl | exact Or.inr (Or.inl rfl) | exact Or.inr (Or.inr rfl)) (hd : (x == ("__debug__" : Str)) = false := by decide)
    (hcd : (x == ("__classdict__" : Str)) = false := by decide)
    (h1 : attributeBase (.Name x p0) "append" X.env (eval (.Name x p0) X.env) = eval (.Name x p0) X.env := by rfl)
    (h2 : ((backTo cpos (starEach [e] X.env)).all (!·.1) && (backToKw cpos (keywordEach [] X.env)).all (·.1.isSome) && decide ([e].length + ([] : List Keyword).length + (if ([] : List Keyword).isEmpty then 0 else 1) < 30)) = true := by rfl)
    (h3 : (apos.endLine == cpos.line) = true := by rfl)
    (h4 : starEach [e] X.env = (false, eval e X.env) :: starEach [] X.env := by rfl) (h5 : (backTo cpos (starEach [] X.env)).any (·.1) = false := by rfl)
    (hs : swapsWith (.Call (.Attribute (.Name x p0) "append" apos) [e] [] cpos) none pos.line X.env = pure false := by rfl) :
    PS X (.Expr (.Call (.Attribute (.Name x p0) "append" apos) [e] [] cpos) pos) (liftS X.K Z m (dApp i we)) :=
  PS.of (ps_expr (pe_bm PySem.F.plainAttrs_list PySem.F.slot_list_append PySem.F.type_list_append mt_append (pe_var hN hv hd hcd) (pa_cons he pa_nil h4) h1 h2 h3 h4 h5) hs) fun D σ H ⟨g, F, env, P, k, w, q⟩ => by
    unfold dApp at w
    split at w
    · rename_i p' xs' ex
      obtain ⟨a0, us0, b1, _, b3, _⟩ := k.cel i p' xs' ex
      refine ⟨_, b1, .inl ⟨rfl, us0, SqL.of b3⟩, g, F, env, _, k, w, fun d env1 v F1 H1 p e1 k1 r1 => ?_⟩
      split at p
      · rename_i p3 xs ex2
        obtain ⟨a1, us1, c1, c2, c3, c4, _⟩ := k1.cel i p3 xs ex2
        rw [b1] at c1
        cases c1
        exact ⟨a0, us1, v, rfl, rfl, c3, by rw [c4.length]; exact Evl.sz_lt p.1, q.nx _ σ F1 _ p.2 e1 (k1.write ex2 b1 (c4.append (.one r1)))⟩
      · exact p.elim
    · exact w.elim
/-- x op= e, numbers -/
abbrev dAug (i : Nat) (f : Int → Int → Int) (we : DE) (E : DEnds) (env : List SD) : Prop := match env[i]? with
  | some (.dat x) => we env fun d env1 => oI (fun n m => .int (f n m)) x d fun z => bIf (noPar env1 i) (E.nx (env1.set i (.dat z))) False
  | _ => False
theorem saug (i : Nat) {x : Str} {pos' : Pos} {op : Operator} {f : Int → Int → Int} (ho : PIp X op (ipI f)) (hN : X.N.Nodup) (he : PE X e (liftE X.K Z we)) (hi : X.N[i]? = some x := by rfl) (hx : Loc X.env.scope x := by first | exact Or.inl rfl | exact Or.inr rfl)
    (hf : X.fn x = true ∨ X.env.scope.names.lookup x = some .local := by first | exact .inl rfl | exact .inr rfl) : PS X (.AugAssign (.Name x pos') op e pos) (liftS X.K Z m (dAug i f we)) :=
  PS.of (ps_aug hN hi hx he ho hf) fun D σ H ⟨g, F, env, P, k, w, q⟩ => by
    unfold dAug at w
    split at w
    · rename_i n ex
      obtain ⟨v0, b1, b2⟩ := k.dat i _ ex
      refine ⟨_, b1, g, F, env, _, k, w, fun d env1 v F1 H1 p e1 k1 r1 => ?_⟩
      unfold oI at p
      split at p
      · cases b2.inv_int
        cases r1.inv_int
        exact ⟨_, _, rfl, rfl, q.nx _ _ F1 H1 (bIf_and p).2 e1 (k1.setD (noPar_of (bIf_and p).1) (.int _))⟩
      · exact p.elim
    · exact w.elim
abbrev RT := SD → List SD → Prop
def decP {I S : Type} (is : List Nat) (dec : List SD → Option (I × S)) (N : I → S → Prop) (env : List SD) : Prop := match dec (unS is env) with
  | some (i, s) => N i s
  | none => False
theorem decP_inv {I S : Type} {is : List Nat} {dec : List SD → Option (I × S)} {N : I → S → Prop} {env : List SD} (h : decP is dec N env) : ∃ i s, dec (unS is env) = some (i, s) ∧ N i s := by
  unfold decP at h
  split at h
  · exact ⟨_, _, ‹_›, h⟩
  · exact h.elim
/-- the state behind: what a loop doesn't change stays -/
def same {I S : Type} (i : I) (N : S → Prop) (i' : I) (s : S) : Prop := i' = i ∧ N s
def qWhileN {I S : Type} (b : I → S → (I → S → Prop) → (I → S → Prop) → Prop) (i : I) : Nat → S → (S → Prop) → Prop
  | 0, _, _ => False
  | n + 1, s, K => b i s (same i fun s => qWhileN b i n s K) (same i K)
def qWhile {I S : Type} (b : I → S → (I → S → Prop) → (I → S → Prop) → Prop) (i : I) (s : S) (K : S → Prop) : Prop := ∃ n, qWhileN b i n s K
abbrev dWhileQ {κ I S : Type} (is : List Nat) (dec : List SD → Option (I × S)) (emb : I → S → List SD) (kk : RT → κ) (qb : κ → I → S → (I → S → Prop) → (I → S → Prop) → Prop) (E : DEnds) (env : List SD) : Prop :=
  decP is dec (fun i s => qWhile (qb (kk E.rt)) i s fun s => E.nx (emb i s)) env
theorem swhileQ {κ I S : Type} (is : List Nat) (dec : List SD → Option (I × S)) (emb : I → S → List SD) (kk : RT → κ) (qb : κ → I → S → (I → S → Prop) → (I → S → Prop) → Prop)
    (hde : ∀ env i s, dec env = some (i, s) → env = emb i s) {c : Expr} {body : List Stmt} {t : DT} (hp : PassesOwn (model X.prog X.w) X.A X.env X.xe) (hc : PT X c (liftT X.K Z t)) (hb : PSs X body (liftS X.K Z m w))
    (hq : ∀ (R : RT) (i : I) (s : S) (nx bk : I → S → Prop), qb (kk R) i s nx bk → t (emb i s) fun b env1 => bIf b (w { nx := decP is dec nx, ct := decP is dec nx, bk := decP is dec bk, rt := R } env1) (decP is dec bk env1)) :
    PS X (.While c body [] pos) (liftS X.K Z m (dWhileQ is dec emb kk qb)) :=
  PS.of (ps_while hp hc hb) fun D σ H ⟨g, F, env, P, k, w0, q⟩ => by
    obtain ⟨i0, s0, d0, n, w0⟩ := decP_inv w0
    have fin : ∀ {env' : List SD} {σ' : L2.St} {F' H' : Hp}, decP is dec (same i0 fun s => P.nx (emb i0 s)) env' → Ex F F' → Ok X.K g F' env' σ' H' → D.nx σ' H' := fun {env' σ' F' H'} p e k => by
      obtain ⟨i, s, d, rfl, p⟩ := decP_inv p
      have k2 := k.unS (is := is)
      rw [hde _ _ _ d] at k2
      exact q.nx _ _ _ _ p e k2
    refine ⟨fun m σ' H' => ∃ env' F', Ex F F' ∧ Ok X.K g F' env' σ' H' ∧ decP is dec (same i0 fun s => qWhileN (qb (kk P.rt)) i0 m s fun s => P.nx (emb i0 s)) env', ⟨n, env, F, Ex.refl F, k, by unfold decP; rw [d0]; exact ⟨rfl, w0⟩⟩, fun m σ' H' ⟨env', F', e1, k1, w1⟩ => ?_⟩
    obtain ⟨i, s, d, rfl, w1⟩ := decP_inv w1
    have k2 := k1.unS (is := is)
    rw [hde _ _ _ d] at k2
    cases m with
    | zero => exact w1.elim
    | succ m =>
      refine ⟨g, F', _, _, k2, hq P.rt i s _ _ w1, fun b env2 F2 H2 p2 e2 k2 => ?_⟩
      cases b with
      | false => exact iteF (fin p2 (e1.trans e2) k2)
      | true =>
        refine iteT ⟨fun σ3 H3 => ∃ env' F', Ex F F' ∧ Ok X.K g F' env' σ3 H3 ∧ decP is dec (same i fun s => qWhileN (qb (kk P.rt)) i m s fun s => P.nx (emb i s)) env', fun σ3 H3 h3 => ⟨m, Nat.lt_succ_self m, h3⟩, g, F2, env2, _, k2, p2, ?_⟩
        have e12 := e1.trans e2
        exact .mk4 (.mk (fun env3 σ3 F3 H3 p3 e3 k3 => ⟨env3, F3, e12.trans e3, k3, p3⟩) (fun env3 σ3 F3 H3 p3 e3 k3 => fin p3 (e12.trans e3) k3) (fun env3 σ3 F3 H3 p3 e3 k3 => ⟨env3, F3, e12.trans e3, k3, p3⟩) (fun r env3 v σ3 F3 H3 p3 e3 k3 r3 => q.rt r env3 v σ3 F3 H3 p3 (e12.trans e3) k3 r3)) rfl
abbrev DI := List SD → (List PyData → List SD → Prop) → Prop
def Yld (K : PySem.W.Frag) (b : Bool) (F H : Hp) (x : V) (H' : Hp) (d : PyData) : Prop := (H' = H ∧ DR K F x d) ∨ b = true ∧ ∃ T xs ds, x = .ref T ∧ H T = none ∧ H' = upd H T (.tup xs) ∧ d = .tuple ds ∧ DRs K F xs ds
structure WalkD (K : PySem.W.Frag) (b : Bool) (F : Hp) (J : It) (items : List PyData) : Prop where
  ex : ∃ G Y, Walk J items.length G Y ∧ (∀ H, Ex F H → G H) ∧ ∀ i H x H' d, Ex F H → items[i]? = some d → Y i H x H' → Yld K b F H x H' d
def liftI (K : PySem.W.Frag) (Z : Zx T) (b : Bool) (w : DI) : TI := fun σ H R => ∃ (g : Gx Z) (F : Hp) (env : List SD) (P : List PyData → List SD → Prop), Ok K g F env σ H ∧ w env P ∧
  ∀ items env' J F' H', P items env' → Ex F F' → Ok K g F' env' σ H' → WalkD K b F' J items → R J H'
theorem PI.of {tg e : Expr} {t t' : TI} (h : PI X tg e t) (w : ∀ σ H R, t' σ H R → t σ H R) : PI X tg e t' := ⟨fun pins s σ H R I q => h.run pins s σ H R I (w σ H R q)⟩
theorem Ok.yld {K : PySem.W.Frag} {b : Bool} {g : Gx Z} {F F0 : Hp} {env : List SD} {σ : L2.St} {H H' : Hp} {x : V} {d : PyData} (k : Ok K g F env σ H) (e : Ex F0 F) (y : Yld K b F0 H x H' d) : ∃ F', Ex F F' ∧ Ok K g F' env σ H' ∧ DRw K b F' x d := by
  rcases y with ⟨rfl, r⟩ | ⟨hb, T, xs, ds, rfl, hT, rfl, rfl, r⟩
  · exact ⟨F, Ex.refl F, k, .inl (r.mono e)⟩
  · have ex : Ex F (upd F T (.tup xs)) := Ex.new (fnone k.fh hT)
    exact ⟨_, ex, k.alloc hT, .inr ⟨hb, T, xs, ds, rfl, rfl, SqT.of upd_same, (r.mono e).mono ex⟩⟩
/-- lo, lo + 1, .. -/
def rangeD (lo : Int) (n : Nat) : List PyData := (List.range n).map fun (i : Nat) => .int (lo + i)
theorem walkD_range {K : PySem.W.Frag} {b : Bool} {F : Hp} (lo : Int) (n : Nat) : WalkD K b F (Itr lo n) (rangeD lo n) := by
  refine ⟨fun _ => True, YFn fun i => .int (lo + i), by rw [show (rangeD lo n).length = n by simp [rangeD]]; exact walk_range, fun _ _ => trivial, fun i H x H' d _ e y => .inl ⟨y.1, ?_⟩⟩
  have y2 := y.2
  subst y2
  unfold rangeD at e
  rw [List.getElem?_map] at e
  by_cases hi : i < n
  · rw [List.getElem?_range hi] at e
    cases e
    exact .int _
  · rw [List.getElem?_eq_none (by simp; omega)] at e
    cases e
abbrev QI := List PyData → (List PyData → Prop) → Prop
/-- what is walked, by arguments -/
abbrev dIt (f : QI) (was : DA) (env : List SD) (P : List PyData → List SD → Prop) : Prop := was env fun ds env' => f ds fun items => P items env'
/-- K of l, sealed: the kernel doesn't look at what is walked -/
inductive At (l : List PyData) (K : List PyData → Prop) : Prop
  | mk : K l → At l K
theorem At.out {l : List PyData} {K : List PyData → Prop} (h : At l K) : K l := by
  cases h with
  | mk h => exact h
theorem At.eq {l : List PyData} {K : List PyData → Prop} : At l K = K l := propext ⟨At.out, At.mk⟩
def rng1 (ds : List PyData) (K : List PyData → Prop) : Prop := match ds with
  | [.int n] => (-1000000 ≤ n ∧ n ≤ 1000000) ∧ At (rangeD 0 n.toNat) K
  | _ => False
def rng2 (ds : List PyData) (K : List PyData → Prop) : Prop := match ds with
  | [.int m, .int n] => (-1000000 ≤ m ∧ m ≤ 1000000 ∧ -1000000 ≤ n ∧ n ≤ 1000000) ∧ At (rangeD m (n - m).toNat) K
  | _ => False
theorem irange1 {tg : Expr} {bb : Bool} {p : Pos} (hm : X.mg "range" = none) (ha : PA X [a] (liftA X.K Z was)) (hg : Gl X "range" := by rfl) (hs : starEach [a] X.env = [(false, eval a X.env)] := by rfl) : PI X tg (.Call (.Name "range" p) [a] [] pos) (liftI X.K Z bb (dIt rng1 was)) :=
  PI.of (pi_range1 hg hm ha hs) fun σ H R ⟨g, F, env, P, k, w, q⟩ => ⟨g, F, env, _, k, w, fun ds env1 vs F1 H1 p e1 k1 r1 => by
    unfold rng1 at p
    split at p
    · obtain ⟨v, rfl, r2⟩ := r1.inv1
      cases r2.inv_int
      have p1 := p.1
      exact ⟨_, rfl, by omega, by omega, q _ env1 _ F1 H1 p.2.out e1 k1 (walkD_range 0 _)⟩
    · exact p.elim⟩
theorem walkD_list {K : PySem.W.Frag} {bb : Bool} {F : Hp} {a : Addr} {xs : List V} {ds : List PyData} (h : RdL K F a xs) (r : DRs K F xs ds) : WalkD K bb F (Itl K a) ds :=
  ⟨fun H => SqL K H a xs, YAt xs, by rw [← r.length]; exact walk_list (xs := xs), fun H e => (h.mono e).sq, fun i H x H' d _ e y => .inl ⟨y.1, by
    obtain ⟨v, h1, h2⟩ := r.get e
    have y2 := y.2
    rw [h1] at y2
    cases y2
    exact h2⟩⟩
theorem walkD_tup {K : PySem.W.Frag} {bb : Bool} {F : Hp} {a : Addr} {xs : List V} {ds : List PyData} (h : SqT K F a xs) (r : DRs K F xs ds) : WalkD K bb F (Itt K a) ds :=
  ⟨fun H => SqT K H a xs, YAt xs, by rw [← r.length]; exact walk_tup (xs := xs), fun H e => Evl.ex_t e h, fun i H x H' d _ e y => .inl ⟨y.1, by
    obtain ⟨v, h1, h2⟩ := r.get e
    have y2 := y.2
    rw [h1] at y2
    cases y2
    exact h2⟩⟩
/-- a text's signs -/
@[irreducible] def signsD (x : Str) : List PyData := x.cps.toList.map fun c => .str ⟨#[c]⟩
theorem walkD_str {K : PySem.W.Frag} {bb : Bool} {F : Hp} (x : Str) : WalkD K bb F (Its x) (signsD x) :=
  ⟨fun _ => True, fun i H v H' => H' = H ∧ ∃ c, x.cps[i]? = some c ∧ v = .str ⟨#[c]⟩, by rw [show (signsD x).length = x.cps.size by unfold signsD; simp]; exact walk_str, fun _ _ => trivial, fun i H v H' d _ e y => .inl ⟨y.1, by
    obtain ⟨c, h1, rfl⟩ := y.2
    unfold signsD at e
    rw [List.getElem?_map, Array.getElem?_toList, h1] at e
    cases e
    exact .str _⟩⟩
/-- over a list, a tuple or a text -/
def iSeq (K : PySem.W.Frag) (tl : TE) : TI := fun σ H R => tl σ H fun x H1 => (∃ a, x = .ref a ∧ ((∃ xs, SqL K H1 a xs ∧ R (Itl K a) H1) ∨ ∃ xs, SqT K H1 a xs ∧ R (Itt K a) H1)) ∨ ∃ z, x = .str z ∧ R (Its z) H1
theorem pi_seq {tg l : Expr} {tl : TE} (hl : PE X l tl) : PI X tg l (iSeq X.K tl) := by
  refine ⟨fun pins s σ H R I h => thn (hl.run pins s σ H _ I h) fun v s1 ⟨x, H1, I1, r1, q1⟩ => ?_⟩
  rcases q1 with ⟨a, ea, q1⟩ | ⟨z, ez, q⟩
  · subst ea
    cases r1
    have fo : ∀ b ∈ [s1.heap.objs.size], FpOk X pins H1 b := fun b hb => by
      rw [List.mem_singleton.mp hb]
      exact I1.fpOk (Nat.le_refl _) (I1.hok.fresh (Nat.le_refl _))
    rcases q1 with ⟨xs, hq, q⟩ | ⟨xs, hq, q⟩
    · obtain ⟨its, rv, pl, hz⟩ := I1.list hq
      exact wpAny_pyIter_list pl.isList ⟨s1.heap.objs.size, [s1.heap.objs.size], _, _, H1, rfl, I1.kept (t' := s1.toks) (fun b o e => Heap.get?_push_of_some _ e), turn_list a _, ⟨_, Heap.get?_push_size _ rfl, rfl, rfl⟩, fo, q⟩
    · obtain ⟨its, rv, pl, hz⟩ := I1.tuple hq
      exact wpAny_pyIter_tuple (show s1.heap.IsTuple a its.toArray from pl) ⟨s1.heap.objs.size, [s1.heap.objs.size], _, _, H1, rfl, I1.kept (t' := s1.toks) (fun b o e => Heap.get?_push_of_some _ e), turn_tuple a _, ⟨_, Heap.get?_push_size _ rfl, rfl, rfl⟩, fo, q⟩
  · subst ez
    obtain ⟨t, rfl⟩ := r1
    cases ha : z.cps.all (· < 128)
    · exact wpAny_pyIter_wide ha (pi_one (tk := s1.toks) I1 _ (turn_str _ z t "str_iterator" (.inr rfl)) ⟨_, Heap.get?_push_size _ rfl, rfl, rfl⟩ q)
    · exact wpAny_pyIter_ascii ha (pi_one (tk := s1.toks) I1 _ (turn_str _ z t "str_ascii_iterator" (.inl rfl)) ⟨_, Heap.get?_push_size _ rfl, rfl, rfl⟩ q)
def itemsQ (d : PyData) (K : List PyData → Prop) : Prop := match d with
  | .list ds => At ds K
  | .tuple ds => At ds K
  | .str x => At (signsD x) K
  | _ => False
abbrev dItF (f : PyData → (List PyData → Prop) → Prop) (we : DE) (env : List SD) (P : List PyData → List SD → Prop) : Prop := we env fun d env' => f d fun ds => P ds env'
theorem iseq {tg : Expr} {bb : Bool} (he : PE X e (liftE X.K Z we)) : PI X tg e (liftI X.K Z bb (dItF itemsQ we)) := PI.of (pi_seq he) fun σ H R ⟨g, F, env, P, k, w, q⟩ => ⟨g, F, env, _, k, w, fun d env1 v F1 H1 p e1 k1 r1 => by
  unfold itemsQ at p
  split at p
  · obtain ⟨a, xs, rfl, h1, h2⟩ := r1.inv_lst
    exact .inl ⟨a, rfl, .inl ⟨xs, (h1.mono k1.fh).sq, q _ env1 _ F1 H1 p.out e1 k1 (walkD_list h1 h2)⟩⟩
  · obtain ⟨a, xs, rfl, h1, h2⟩ := r1.inv_tup
    exact .inl ⟨a, rfl, .inr ⟨xs, Evl.ex_t k1.fh h1, q _ env1 _ F1 H1 p.out e1 k1 (walkD_tup h1 h2)⟩⟩
  · cases r1.inv_str
    exact .inr ⟨_, rfl, q _ env1 _ F1 H1 p.out e1 k1 (walkD_str _)⟩
  · exact p.elim⟩
/-- zip of two lists, of two tuples -/
def zipD : List PyData → List PyData → List PyData
  | x :: xs, y :: ys => .tuple [x, y] :: zipD xs ys
  | _, _ => []
def zipQ (ds : List PyData) (K : List PyData → Prop) : Prop := match ds with
  | [.list xs, .list ys] => At (zipD xs ys) K
  | [.tuple xs, .tuple ys] => At (zipD xs ys) K
  | _ => False
def qFor {I S : Type} (b : PyData → I → S → (I → S → Prop) → (I → S → Prop) → Prop) (i : I) : List PyData → S → (S → Prop) → Prop
  | [], s, K => K s
  | d :: r, s, K => b d i s (same i fun s => qFor b i r s K) (same i K)
abbrev dForQ {κ I S : Type} (is : List Nat) (dec : List SD → Option (I × S)) (emb : I → S → List SD) (kk : RT → κ) (qb : κ → PyData → I → S → (I → S → Prop) → (I → S → Prop) → Prop) (wi : DI) (E : DEnds) (env : List SD) : Prop :=
  wi env fun items env1 => decP is dec (fun i s => qFor (qb (kk E.rt)) i items s fun s => E.nx (emb i s)) env1
theorem sforQ {κ I S : Type} (is : List Nat) (dec : List SD → Option (I × S)) (emb : I → S → List SD) (kk : RT → κ) (qb : κ → PyData → I → S → (I → S → Prop) → (I → S → Prop) → Prop)
    (hde : ∀ env i s, dec env = some (i, s) → env = emb i s) {tg iter : Expr} {body : List Stmt} {wi : DI} {t : DG} {bb : Bool} (hp : PassesOwn (model X.prog X.w) X.A X.env X.xe) (hc : X.calm = true) (hi : PI X tg iter (liftI X.K Z bb wi)) (hg : PG X tg (liftG X.K Z bb t)) (hb : PSs X body (liftS X.K Z m w))
    (hq : ∀ (R : RT) (d : PyData) (i : I) (s : S) (nx bk : I → S → Prop), qb (kk R) d i s nx bk → t d (emb i s) fun env1 => w { nx := decP is dec nx, ct := decP is dec nx, bk := decP is dec bk, rt := R } env1)
    (hs : ∀ x, foldedSetIterable iter X.env x = pure x := by intro _; rfl) : PS X (.For tg iter body [] pos) (liftS X.K Z m (dForQ is dec emb kk qb wi)) :=
  PS.of (ps_for hp hc hi hg hb hs) fun D σ H ⟨g, F, env, P, k, w0, q⟩ => ⟨g, F, env, _, k, w0, fun items env1 J F1 H1 p e1 k1 ⟨G, Y, wk, hG, hY⟩ => by
    have q := q.ex e1
    obtain ⟨i0, s0, d0, p⟩ := decP_inv p
    have fin : ∀ {env' : List SD} {σ' : L2.St} {F' H' : Hp}, decP is dec (same i0 fun s => P.nx (emb i0 s)) env' → Ex F1 F' → Ok X.K g F' env' σ' H' → D.nx σ' H' := fun {env' σ' F' H'} p e k => by
      obtain ⟨i, s, d, rfl, p⟩ := decP_inv p
      have k2 := k.unS (is := is)
      rw [hde _ _ _ d] at k2
      exact q.nx _ _ _ _ p e k2
    refine for_it wk (fun j σ' H' => ∃ env' F', Ex F1 F' ∧ Ok X.K g F' env' σ' H' ∧ decP is dec (same i0 fun s => qFor (qb (kk P.rt)) i0 (items.drop j) s fun s => P.nx (emb i0 s)) env') ⟨env1, F1, Ex.refl F1, k1, by unfold decP; rw [d0]; exact ⟨rfl, p⟩⟩ (fun i σ' H' _ ⟨env', F', e2, k2, _⟩ => hG H' (e2.trans k2.fh)) (fun j x σ' H' H2 hj ⟨env', F', e2, k2, w2⟩ y => ?_) fun σ' H' ⟨env', F', e2, k2, w2⟩ => ?_
    · obtain ⟨i, s, de, rfl, w3⟩ := decP_inv w2
      have k2 := k2.unS (is := is)
      rw [hde _ _ _ de] at k2
      have hd : items.drop j = items[j] :: items.drop (j + 1) := List.drop_eq_getElem_cons hj
      rw [hd] at w3
      obtain ⟨F3, e3, k3, r3⟩ := k2.yld e2 (hY j H' x H2 items[j] (e2.trans k2.fh) (by simp [hj]) y)
      have e13 := e2.trans e3
      refine ⟨g, F3, _, _, _, k3, r3, hq P.rt _ i s _ _ w3, fun env4 σ4 F4 H4 p4 e4 k4 => ⟨g, F4, env4, _, k4, p4, ?_⟩⟩
      have e14 := e13.trans e4
      exact .mk4 (.mk (fun env5 σ5 F5 H5 p5 e5 k5 => ⟨env5, F5, e14.trans e5, k5, p5⟩) (fun env5 σ5 F5 H5 p5 e5 k5 => fin p5 (e14.trans e5) k5) (fun env5 σ5 F5 H5 p5 e5 k5 => ⟨env5, F5, e14.trans e5, k5, p5⟩) (fun r env5 v σ5 F5 H5 p5 e5 k5 r5 => q.rt r env5 v σ5 F5 H5 p5 (e14.trans e5) k5 r5)) rfl
    · rw [List.drop_length] at w2
      exact fin w2 e2 k2⟩
end
end DL

namespace DL
variable {T : List (PySem.Addr × PySem.Str)} {Z : Zx T}
open PySem PySem.Spec PyProof.Rows L2
open Evl (Ex)

def wipeD (env : List SD) : List Nat → List SD
  | [] => env
  | v :: vs => (wipeD env vs).set v .un
def setAll (σ : L2.St) : List Nat → List V → L2.St
  | i :: is, v :: vs => setAll (σ.set i (some v)) is vs
  | _, _ => σ
def setAllD (env : List SD) : List Nat → List PyData → List SD
  | i :: is, d :: ds => setAllD (env.set i (.dat d)) is ds
  | _, _ => env
theorem wipe_get (σ : L2.St) : ∀ (vs : List Nat) (j : Nat), (wipe σ vs)[j]? = if j ∈ vs then (σ[j]?).map (fun _ => none) else σ[j]?
  | [], j => by simp [wipe]
  | v :: vs, j => by
    unfold wipe
    rw [List.getElem?_set]
    by_cases h : v = j
    · subst h
      rw [if_pos rfl, if_pos List.mem_cons_self, wipe_length]
      by_cases hl : v < σ.length
      · rw [if_pos hl]
        simp [hl]
      · rw [if_neg hl]
        simp [Nat.le_of_not_lt hl]
    · rw [if_neg h, wipe_get σ vs j]
      by_cases hj : j ∈ vs
      · rw [if_pos hj, if_pos (List.mem_cons_of_mem _ hj)]
      · rw [if_neg hj, if_neg (fun z => (List.mem_cons.mp z).elim (fun z => h z.symm) hj)]
theorem wipe_set {σ : L2.St} {vs : List Nat} {i : Nat} {o : Option V} (h : i ∈ vs) : wipe (σ.set i o) vs = wipe σ vs := List.ext_getElem? fun j => by
  rw [wipe_get, wipe_get]
  by_cases hj : j ∈ vs
  · rw [if_pos hj, if_pos hj, List.getElem?_set]
    by_cases e : i = j
    · subst e
      rw [if_pos rfl]
      by_cases hl : i < σ.length
      · simp [hl]
      · rw [if_neg hl]
        simp [Nat.le_of_not_lt hl]
    · rw [if_neg e]
  · have ne : i ≠ j := fun e => by subst e; exact hj h
    rw [if_neg hj, if_neg hj, List.getElem?_set, if_neg ne]
theorem wipe_all {vs : List Nat} : ∀ {is : List Nat} {us : List V} {σ : L2.St}, (∀ i ∈ is, i ∈ vs) → wipe (setAll σ is us) vs = wipe σ vs
  | [], _, _, _ => by simp [setAll]
  | i :: is, [], _, _ => by simp [setAll]
  | i :: is, u :: us, σ, h => by
    unfold setAll
    rw [wipe_all (fun j hj => h j (List.mem_cons_of_mem _ hj)), wipe_set (h i List.mem_cons_self)]
theorem wipe_wipe {vs : List Nat} {σ : L2.St} : wipe (wipe σ vs) vs = wipe σ vs := List.ext_getElem? fun j => by
  rw [wipe_get, wipe_get]
  by_cases hj : j ∈ vs
  · rw [if_pos hj, if_pos hj]
    cases σ[j]? <;> rfl
  · rw [if_neg hj, if_neg hj]
section
variable {K : PySem.W.Frag} {g : Gx Z} {F F' : Hp} {env : List SD} {σ : L2.St} {H : Hp}
theorem noPar_un {env : List SD} {i j : Nat} {r : SD} (h : NoPar env j) (hr : ∀ xs, r ≠ .cel true xs) : NoPar (env.set i r) j := fun xs e => by
  rcases get_set e with ⟨_, q⟩ | ⟨_, q⟩
  · exact hr xs q.symm
  · exact h xs q
theorem noPar_wipe {env : List SD} {j : Nat} (h : NoPar env j) : ∀ vs : List Nat, NoPar (wipeD env vs) j
  | [] => h
  | v :: vs => noPar_un (noPar_wipe h vs) (fun _ z => by cases z)
theorem Ok.wiped (k : Ok K g F env σ H) : ∀ {vs : List Nat}, (∀ v ∈ vs, NoPar env v) → Ok K g F (wipeD env vs) (wipe σ vs) H
  | [], _ => k
  | v :: vs, h => (k.wiped (vs := vs) fun u hu => h u (List.mem_cons_of_mem _ hu)).setU (noPar_wipe (h v List.mem_cons_self) vs)
theorem Ok.setAll : ∀ {is : List Nat} {us : List V} {ds : List PyData} {env : List SD} {σ : L2.St}, Ok K g F env σ H → (∀ i ∈ is, NoPar env i) → DRs K F us ds → Ok K g F (setAllD env is ds) (DL.setAll σ is us) H
  | [], _, _, _, _, k, _, _ => by simpa [DL.setAll, setAllD] using k
  | i :: is, _, _, _, _, k, h, .nil => by simpa [DL.setAll, setAllD] using k
  | i :: is, _, _, _, _, k, h, .cons a b => by
    unfold DL.setAll setAllD
    exact Ok.setAll (k.setD (h i List.mem_cons_self) a) (fun j hj => noPar_un (h j (List.mem_cons_of_mem _ hj)) (fun _ z => by cases z)) b
theorem Ok.unwiped {vs : List Nat} (k : Ok K g F env (wipe σ vs) H) : Ok K g F env σ H := by
  have up : ∀ {i : Nat} {v : V}, (wipe σ vs)[i]? = some (some v) → σ[i]? = some (some v) := fun {i v} e => by
    rw [wipe_get] at e
    by_cases hj : i ∈ vs
    · rw [if_pos hj] at e
      cases q : σ[i]? with
      | none => rw [q] at e; cases e
      | some o => rw [q] at e; cases e
    · rw [if_neg hj] at e
      exact e
  have dn : ∀ {j : Nat} {p : Bool} {ys : List PyData} {a : Addr}, env[j]? = some (.cel p ys) → σ[j]? = some (some (.ref a)) → (wipe σ vs)[j]? = some (some (.ref a)) := fun {j p ys a} e q => by
    obtain ⟨b, _, h1, _⟩ := k.cel j p ys e
    have := up h1
    rw [q] at this
    cases this
    exact h1
  refine ⟨k.len.trans (wipe_length σ vs), k.fh, fun i d e => ?_, fun i p xs e => ?_, fun i j p q xs ys a h1 h2 h3 h4 => k.sep i j p q xs ys a h1 h2 (dn h1 h3) (dn h2 h4), k.pin, k.frame, k.newF, k.oldF, fun a o e => ?_, ?_⟩
  · obtain ⟨v, h1, h2⟩ := k.dat i d e
    exact ⟨v, up h1, h2⟩
  · obtain ⟨a, us, h1, h2⟩ := k.cel i p xs e
    exact ⟨a, us, up h1, h2⟩
  · obtain ⟨z1, z2, z3⟩ := k.prot a o e
    exact ⟨z1, z2, fun j p ys e1 e2 => z3 j p ys e1 (dn e1 e2)⟩
  · obtain ⟨B, h1, h2⟩ := k.dic
    refine ⟨B, fun i w e => let ⟨a, z1, z2⟩ := h1 i w e; ⟨a, up z1, z2⟩, fun i j w w' a b e1 e2 z1 z2 => h2 i j w w' a b e1 e2 ?_ ?_⟩
    · obtain ⟨c, y1, _⟩ := h1 i w e1
      have := up y1
      rw [z1] at this
      cases this
      exact y1
    · obtain ⟨c, y1, _⟩ := h1 j w' e2
      have := up y1
      rw [z2] at this
      cases this
      exact y1
theorem set_same {α : Type} {l : List α} {i : Nat} {x : α} (h : l[i]? = some x) : l.set i x = l := List.ext_getElem? fun j => by
  rw [List.getElem?_set]
  by_cases e : i = j
  · subst e
    rw [if_pos rfl, if_pos (List.getElem?_eq_some_iff.mp h).1, h]
  · rw [if_neg e]
/-- what stood at the slots vs is known again -/
def again (env1 : List SD) : List Nat → List SD → List SD
  | [], env2 => env2
  | v :: vs, env2 => match env1[v]? with
    | some (.dat d) => again env1 vs (env2.set v (.dat d))
    | _ => again env1 vs env2
theorem Ok.again {F1 H1 : Hp} {env1 : List SD} (k1 : Ok K g F1 env1 σ H1) (ex : Ex F1 F) : ∀ {vs : List Nat} {env2 : List SD}, Ok K g F env2 σ H → (∀ v ∈ vs, NoPar env2 v) → Ok K g F (DL.again env1 vs env2) σ H
  | [], _, k, _ => k
  | v :: vs, env2, k, h => by
    unfold DL.again
    split
    · rename_i d e
      obtain ⟨u, h1, h2⟩ := k1.dat v d e
      have k2 := k.setD (h v List.mem_cons_self) (h2.mono ex)
      rw [set_same h1] at k2
      exact Ok.again k1 ex k2 fun j hj => noPar_un (h j (List.mem_cons_of_mem _ hj)) (fun _ z => by cases z)
    · exact Ok.again k1 ex k fun j hj => h j (List.mem_cons_of_mem _ hj)
/-- the cell at D, no name's, protected -/
theorem Ok.hide (k : Ok K g F env σ H) {D : Addr} {vs : List V} (hF : F D = none) (hH : H D = some (.lst vs)) (nw : ∀ (j : Nat) (p : Bool) (ys : List PyData), env[j]? = some (.cel p ys) → σ[j]? ≠ some (some (.ref D))) (hp : g.Pr D = none) : Ok K (g.hid D vs hp) F env σ H :=
  ⟨k.len, k.fh, k.dat, k.cel, k.sep, k.pin, k.frame, k.newF, k.oldF, fun a o e => by
    by_cases z : a = D
    · subst z
      have e' : upd g.Pr a (.lst vs) a = some o := e
      rw [upd_same] at e'
      cases e'
      exact ⟨hH, hF, nw⟩
    · have e' : upd g.Pr D (.lst vs) a = some o := e
      rw [upd_ne z] at e'
      exact k.prot a o e',
    k.dic.keep (Ex.refl F) (fun a xs e n => by
      have ne : a ≠ D := fun z => by rw [z, hH] at e; cases e
      show upd g.Pr D (.lst vs) a = none
      rw [upd_ne ne]
      exact n) fun a xs _ n => ⟨n, rfl⟩⟩
theorem Ok.bare {D : Addr} {vs : List V} (hp : g.Pr D = none) (k : Ok K (g.hid D vs hp) F env σ H) :
    Ok K g F env σ H ∧ F D = none ∧ H D = some (.lst vs) ∧ ∀ (j : Nat) (p : Bool) (ys : List PyData), env[j]? = some (.cel p ys) → σ[j]? ≠ some (some (.ref D)) := by
  obtain ⟨z1, z2, z3⟩ := k.prot D (.lst vs) upd_same
  refine ⟨⟨k.len, k.fh, k.dat, k.cel, k.sep, k.pin, k.frame, k.newF, k.oldF, fun a o e => ?_, (k.dic.keep (Ex.refl F) (fun a xs e n => ?_) fun a xs _ n => ⟨n, rfl⟩)⟩, z2, z1, z3⟩
  · have ne : a ≠ D := fun z => by rw [z, hp] at e; cases e
    exact k.prot a o (show upd g.Pr D (.lst vs) a = some o by rw [upd_ne ne]; exact e)
  · have ne : a ≠ D := fun z => by rw [z, z1] at e; cases e
    have n : upd g.Pr D (.lst vs) a = none := n
    rw [upd_ne ne] at n
    exact n
/-- a cell of no name is written -/
theorem Ok.writeP (k : Ok K g F env σ H) {D : Addr} {o o0 : HO} (hD : H D = some o0) (hn : ∀ φ, o0 ≠ .ext φ) (t1 : ∀ ps, o0 ≠ .tbl ps) (t2 : ∀ q, o0 ≠ LamX.CodeO D q) (hF : F D = none) (h0 : g.H0 D = none) (hp : g.Pr D = none) (nw : ∀ (j : Nat) (p : Bool) (ys : List PyData), env[j]? = some (.cel p ys) → σ[j]? ≠ some (some (.ref D))) : Ok K g F env σ (upd H D o) := by
  refine ⟨k.len, fun a u e => ?_, k.dat, fun i p xs e => ?_, k.sep, k.pin, k.frame.putO hD t1 t2 (fun o e => by rw [h0] at e; cases e), k.newF, k.oldF, fun a u e => ?_, (k.dic.keep (Ex.refl F) (fun _ _ _ z => z) fun a xs e n => ⟨n, upd_ne fun z => ?_⟩)⟩
  · have ne : a ≠ D := fun z => by rw [z, hF] at e; cases e
    rw [upd_ne ne]
    exact k.fh a u e
  · obtain ⟨a, us, h1, h2, h3, h4⟩ := k.cel i p xs e
    have ne : a ≠ D := fun z => by subst z; exact nw i p xs e h1
    exact ⟨a, us, h1, h2, by rw [upd_ne ne]; exact h3, h4⟩
  · obtain ⟨z1, z2, z3⟩ := k.prot a u e
    have ne : a ≠ D := fun z => by rw [z, hp] at e; cases e
    exact ⟨by rw [upd_ne ne]; exact z1, z2, z3⟩
  · subst z
    rw [hD] at e
    exact hn xs (Option.some.inj e)
end

inductive CT where
  | one (i : Nat)
  | tup (is : List Nat)
def CT.slots : CT → List Nat
  | .one i => [i]
  | .tup is => is
def gNs : List Nat → TGs
  | [] => gNil
  | i :: is => gCons (gName i) (gNs is)
/-- the target's reading -/
def CT.g (K : PySem.W.Frag) : CT → TG
  | .one i => gName i
  | .tup is => gTup K is.length (gNs is)
def setK : List Nat → List PyData → List SD → (List SD → Prop) → Prop
  | [], ds, env, P => nilQ ds (P env)
  | i :: is, ds, env, P => consQ ds fun d r => setK is r (env.set i (.dat d)) P
theorem setK_inv : ∀ {is : List Nat} {ds : List PyData} {env : List SD} {P : List SD → Prop}, setK is ds env P → ds.length = is.length ∧ P (setAllD env is ds)
  | [], ds, env, P, h => by
    obtain ⟨rfl, h⟩ := nilQ_inv h
    exact ⟨rfl, h⟩
  | i :: is, ds, env, P, h => by
    obtain ⟨d, r, rfl, h⟩ := consQ_inv h
    obtain ⟨e, h⟩ := setK_inv (is := is) h
    exact ⟨by simp [e], h⟩
def CT.d : CT → DG
  | .one i => fun x env P => P (env.set i (.dat x))
  | .tup is => fun x env P => tupQ x fun ds => setK is ds env P
theorem gNs_ok : ∀ {is : List Nat} {vs : List V} {σ : L2.St} {H : Hp} {Q : L2.St → Hp → Prop}, vs.length = is.length → Q (setAll σ is vs) H → gNs is vs σ H Q
  | [], [], σ, H, Q, _, h => ⟨rfl, by simpa [setAll] using h⟩
  | [], _ :: _, _, _, _, e, _ => by simp at e
  | _ :: _, [], _, _, _, e, _ => by simp at e
  | i :: is, v :: vs, σ, H, Q, e, h => ⟨v, vs, rfl, gNs_ok (by simpa using e) (by unfold setAll at h; exact h)⟩
/-- whether the target is a tuple of names -/
def CT.isT : CT → Bool
  | .one _ => false
  | .tup _ => true
theorem CT.ok {K : PySem.W.Frag} {g : Gx Z} {F H : Hp} {env : List SD} {σ : L2.St} {t : CT} {x : V} {d : PyData} {P : List SD → Prop} {Q : L2.St → Hp → Prop} (k : Ok K g F env σ H) (hn : ∀ i ∈ t.slots, NoPar env i) (r : DRw K t.isT F x d) (w : t.d d env P)
    (q : ∀ env' σ', P env' → Ok K g F env' σ' H → (∃ us, σ' = setAll σ t.slots us) → Q σ' H) : t.g K x σ H Q := by
  cases t with
  | one i => exact q _ _ w (k.setD (hn i (List.mem_singleton.mpr rfl)) r.non) ⟨[x], by simp [CT.slots, setAll]⟩
  | tup is =>
    obtain ⟨ds, rfl, w⟩ := tupQ_inv w
    have w := setK_inv w
    obtain ⟨a, xs, rfl, h1, h2⟩ := r.tup
    exact ⟨a, xs, rfl, Evl.ex_t k.fh h1, h2.length.trans w.1, gNs_ok (h2.length.trans w.1) (q _ _ w.2 (k.setAll hn h2) ⟨xs, rfl⟩)⟩
def decQ {I S : Type} (dec : List SD → Option (I × S)) (N : I → S → Prop) (env : List SD) : Prop := match dec env with
  | some (i, s) => N i s
  | none => False
theorem decQ_inv {I S : Type} {dec : List SD → Option (I × S)} {N : I → S → Prop} {env : List SD} (h : decQ dec N env) : ∃ i s, dec env = some (i, s) ∧ N i s := by
  unfold decQ at h
  split at h
  · exact ⟨_, _, ‹_›, h⟩
  · exact h.elim
def qLc {I S : Type} (b : PyData → I → S → (I → S → Prop) → (PyData → I → S → Prop) → Prop) (i : I) : List PyData → List PyData → S → (List PyData → S → Prop) → Prop
  | [], acc, s, K => K acc s
  | d :: r, acc, s, K => b d i s (same i fun s => qLc b i r acc s K) fun y => same i fun s => acc.length < 100000 ∧ qLc b i r (acc ++ [y]) s K
abbrev dLcQ {I S : Type} (dec : List SD → Option (I × S)) (emb : I → S → List SD) (qb : PyData → I → S → (I → S → Prop) → (PyData → I → S → Prop) → Prop) (wi : DI) (t : CT) (env : List SD) (P : SD → List SD → Prop) : Prop :=
  wi env fun items env1 => bIf (t.slots.all (noPar env1)) (decQ dec (fun i s => qLc qb i items [] s fun acc s => bIf (t.slots.all (noPar (emb i s))) (P (.cel false acc) (again env1 t.slots (emb i s))) False) (wipeD env1 t.slots)) False
def LcHyp {I S : Type} (dec : List SD → Option (I × S)) (emb : I → S → List SD) (qb : PyData → I → S → (I → S → Prop) → (PyData → I → S → Prop) → Prop) (t : CT) (c : DT) (we : DE) : Prop :=
  ∀ (d : PyData) (i : I) (s : S) (sk : I → S → Prop) (yd : PyData → I → S → Prop), qb d i s sk yd → t.d d (emb i s) fun env1 => c env1 fun b env2 => bIf b
    (we env2 fun y env3 => bIf (t.slots.all (noPar env3)) (decQ dec (yd y) (wipeD env3 t.slots)) False)
    (bIf (t.slots.all (noPar env2)) (decQ dec sk (wipeD env2 t.slots)) False)
theorem noPar_all {env : List SD} {vs : List Nat} (h : vs.all (noPar env) = true) : ∀ v ∈ vs, NoPar env v := fun v hv => noPar_of (List.all_eq_true.mp h v hv)
theorem lift_lc {K : PySem.W.Frag} {I S : Type} {dec : List SD → Option (I × S)} {emb : I → S → List SD} {qb : PyData → I → S → (I → S → Prop) → (PyData → I → S → Prop) → Prop} (hde : ∀ env i s, dec env = some (i, s) → env = emb i s)
    {wi : DI} {t : CT} {c : DT} {we : DE} (hq : LcHyp dec emb qb t c we) {σ : L2.St} {H : Hp} {Q : VK} (h : liftX K Z (dLcQ dec emb qb wi t) σ H Q) : tLc (liftI K Z t.isT wi) (t.g K) (liftT K Z c) (liftE K Z we) t.slots σ H Q := by
  obtain ⟨g, F, env, P, k, w, q⟩ := h
  refine ⟨g, F, env, _, k, w, fun items env1 J F1 H1 p e1 k1 ⟨G, Y, wk, hG, hY⟩ D hD => ?_⟩
  obtain ⟨np, p⟩ := bIf_and p
  obtain ⟨i0, s0, d0, p⟩ := decQ_inv p
  have kw := k1.wiped (noPar_all np)
  obtain ⟨kn, rn⟩ := kw.newCell hD (vs := []) (xs := []) .nil
  refine lc_it wk (fun j H' => ∃ env' F' acc, Ex F1 F' ∧ Ok K g F' env' (wipe σ t.slots) H' ∧ ResOk K g F' env' (wipe σ t.slots) H' (.ref D) (.cel false acc) ∧ (∀ v ∈ t.slots, NoPar env' v) ∧
      decQ dec (same i0 fun s => qLc qb i0 (items.drop j) acc s fun acc s => bIf (t.slots.all (noPar (emb i0 s))) (P (.cel false acc) (again env1 t.slots (emb i0 s))) False) env')
    ⟨_, F1, [], Ex.refl F1, kn, rn, fun v hv => noPar_wipe (noPar_all np v hv) _, by unfold decQ; rw [d0]; exact ⟨rfl, p⟩⟩ (fun i H' _ ⟨env', F', acc, e2, k2, _⟩ => hG H' (e2.trans k2.fh)) (fun j x H' H2 hi ⟨env', F', acc, e2, k2, r2, n2, w2⟩ y => ?_) fun H' ⟨env', F', acc, e2, k2, r2, n2, w2⟩ => ?_
  · obtain ⟨i, s, de, rfl, w3⟩ := decQ_inv w2
    obtain rfl := hde _ _ _ de
    rw [List.drop_eq_getElem_cons hi] at w3
    have w2 := hq _ _ _ _ _ w3
    obtain ⟨D', vsA, eD, hF, hHD, rA, h0, hpr, nw⟩ := r2
    cases eD
    have kh := k2.hide hF hHD nw hpr
    obtain ⟨F3, e3, k3, r3⟩ := kh.yld e2 (hY j H' x H2 items[j] (e2.trans k2.fh) (by simp [hi]) y)
    refine CT.ok k3 n2 r3 w2 fun env4 σ4 p4 k4 ⟨us, hσ⟩ => ?_
    have hw : wipe σ4 t.slots = wipe σ t.slots := by rw [hσ, wipe_all (fun i hi => hi), wipe_wipe]
    refine ⟨hw, _, F3, env4, _, k4, p4, fun b env5 F5 H5 p5 e5 k5 => ?_⟩
    cases b with
    | false =>
      refine iteF ?_
      have p5 := bIf_and p5
      obtain ⟨k6, z1, z2, z3⟩ := Ok.bare hpr k5
      have k7 := k6.wiped (noPar_all p5.1)
      rw [hw] at k7
      refine ⟨_, F5, acc, (e2.trans e3).trans e5, k7, ?_, fun v hv => noPar_wipe (noPar_all p5.1 v hv) _, p5.2⟩
      refine ⟨D, vsA, rfl, z1, z2, rA.mono (e3.trans e5), h0, hpr, fun j p ys ej ez => ?_⟩
      rw [← hw] at ez
      exact wiped_cell z3 ej ez
    | true =>
      refine iteT ⟨_, F5, env5, _, k5, p5, fun d env6 v F6 H6 p6 e6 k6 r6 => ?_⟩
      obtain ⟨np6, p6⟩ := bIf_and p6
      obtain ⟨i6, s6, d6, hi6, p6⟩ := decQ_inv p6
      obtain ⟨k7, z1, z2, z3⟩ := Ok.bare hpr k6
      refine ⟨vsA, z2, by rw [rA.length]; exact Evl.sz_lt p6.1, ?_⟩
      have k8 := k7.wiped (noPar_all np6)
      have z4 : ∀ (j : Nat) (p : Bool) (ys : List PyData), (wipeD env6 t.slots)[j]? = some (.cel p ys) → (wipe σ4 t.slots)[j]? ≠ some (some (.ref D)) := fun j p ys ej ez => wiped_cell z3 ej ez
      have k9 := k8.writeP (o := .lst (vsA ++ [v])) z2 (fun _ z => by cases z) (fun _ z => by cases z) (fun _ z => codeO_lst z.symm) z1 h0 hpr z4
      rw [hw] at k9 z4
      exact ⟨_, F6, acc ++ [d], ((e2.trans e3).trans e5).trans e6, k9, ⟨D, vsA ++ [v], rfl, z1, upd_same, (rA.mono ((e3.trans e5).trans e6)).append (.one r6), h0, hpr, z4⟩, fun v hv => noPar_wipe (noPar_all np6 v hv) _, by unfold decQ; rw [d6]; exact ⟨hi6, p6.2⟩⟩
  · obtain ⟨i, s, de, rfl, w3⟩ := decQ_inv w2
    obtain rfl := hde _ _ _ de
    rw [List.drop_length] at w3
    have w2 := bIf_and w3
    have k3 := k2.unwiped
    have k4 := Ok.again k1 e2 k3 (noPar_all w2.1)
    obtain ⟨D', vsA, eD, hF, hHD, rA, h0, hpr, nw⟩ := r2
    cases eD
    refine q _ _ _ F' H' w2.2 (e1.trans e2) k4 ⟨D, vsA, rfl, hF, hHD, rA, h0, hpr, fun j p ys ej ez => ?_⟩
    have ej' := again_cell ej
    obtain ⟨a, _, b1, _⟩ := k3.cel j p ys ej'
    obtain ⟨a2, _, b2, _⟩ := k2.cel j p ys ej'
    have b3 := wipe_some b2
    rw [ez] at b1
    cases b1
    rw [ez] at b3
    cases b3.1
    exact nw j p ys ej' b2
where
  wiped_cell {env : List SD} {σ : L2.St} {D : Addr} {vs : List Nat} (z : ∀ (j : Nat) (p : Bool) (ys : List PyData), env[j]? = some (.cel p ys) → σ[j]? ≠ some (some (.ref D))) {j : Nat} {p : Bool} {ys : List PyData} (e : (wipeD env vs)[j]? = some (.cel p ys)) (e2 : (wipe σ vs)[j]? = some (some (.ref D))) : False := by
    have h1 := (wipe_some e2).1
    have : ∀ vs : List Nat, (wipeD env vs)[j]? = some (.cel p ys) → env[j]? = some (.cel p ys) := fun vs => by
      induction vs with
      | nil => exact id
      | cons v vs ih =>
        intro h
        rcases get_set h with ⟨_, q⟩ | ⟨_, q⟩
        · cases q
        · exact ih q
    exact z j p ys (this vs e) h1
  again_cell {env1 : List SD} {vs : List Nat} {env2 : List SD} {j : Nat} {p : Bool} {ys : List PyData} (e : (again env1 vs env2)[j]? = some (.cel p ys)) : env2[j]? = some (.cel p ys) := by
    induction vs generalizing env2 with
    | nil => exact e
    | cons v vs ih =>
      unfold again at e
      split at e
      · have := ih e
        rcases get_set this with ⟨_, q⟩ | ⟨_, q⟩
        · cases q
        · exact q
      · exact ih e
section
variable {X : Cx} {elt tg iter : Expr} {ifs : List Expr} {scope : Scope} {own : List (Str × Nat)} {pos : Pos} {wi : DI} {t : CT} {c : DT} {we : DE} {m : Nat} {I S : Type} {dec : List SD → Option (I × S)} {emb : I → S → List SD} {qb : PyData → I → S → (I → S → Prop) → (PyData → I → S → Prop) → Prop}
abbrev dYes (env : List SD) (P : Bool → List SD → Prop) : Prop := P true env
theorem tyes : PTs X [] (liftT X.K Z dYes) := ⟨fun pins s σ H Q I ⟨g, F, env, P, k, w, q⟩ => pts_nil.run pins s σ H Q I (q true env F H w (Ex.refl F) k)⟩
theorem tif1 {e : Expr} (h : PT X e (liftT X.K Z c)) : PTs X [e] (liftT X.K Z c) := pts_one h
/-- [elt for tg in iter if ..] -/
theorem dlc (own : List (Str × Nat)) (t : CT) (hde : ∀ env i s, dec env = some (i, s) → env = emb i s) (hc : X.calm = true) (hN : X.N.Nodup) (hi : PI X tg iter (liftI X.K Z t.isT wi)) (ok : BlkOk X.N X.env.scope scope own)
    (hg : ∀ (s : Shared) (H : Hp) (C : Addr) (cl : List (Str × Addr)) (fp : List Addr), PG (X.blk s H scope (compEnvC scope cl C X.env) fp) tg (t.g X.K)) (ht : ∀ (s : Shared) (H : Hp) (C : Addr) (cl : List (Str × Addr)) (fp : List Addr), PTs (X.blk s H scope (compEnvC scope cl C X.env) fp) ifs (liftT X.K Z c))
    (he : ∀ (s : Shared) (H : Hp) (C : Addr) (cl : List (Str × Addr)) (fp : List Addr), PE (X.blk s H scope (compEnvC scope cl C X.env) fp) elt (liftE X.K Z we)) (hq : LcHyp dec emb qb t c we) (hsl : t.slots = own.map (·.2) := by rfl) (hs : ∀ x, foldedSetIterable iter X.env x = pure x := by intro _; rfl) :
    PE X (.ListComp elt [⟨tg, iter, ifs, 0⟩] scope pos) (liftX X.K Z (dLcQ dec emb qb wi t)) := PE.of (pe_lc hc hN hi ok hg ht he hs) fun σ H Q h => by
  have h2 := lift_lc hde hq h
  rw [hsl] at h2
  exact h2
/-- name = [elt for tg in iter if ..] -/
theorem ssetLc (i : Nat) (own : List (Str × Nat)) (t : CT) (hde : ∀ env i s, dec env = some (i, s) → env = emb i s) {y : Str} {py spos : Pos} (hc : X.calm = true) (hN : X.N.Nodup) (hi : PI X tg iter (liftI X.K Z t.isT wi)) (ok : BlkOk X.N X.env.scope scope own)
    (hg : ∀ (s : Shared) (H : Hp) (C : Addr) (cl : List (Str × Addr)) (fp : List Addr), PG (X.blk s H scope (compEnvC scope cl C X.env) fp) tg (t.g X.K)) (ht : ∀ (s : Shared) (H : Hp) (C : Addr) (cl : List (Str × Addr)) (fp : List Addr), PTs (X.blk s H scope (compEnvC scope cl C X.env) fp) ifs (liftT X.K Z c))
    (he : ∀ (s : Shared) (H : Hp) (C : Addr) (cl : List (Str × Addr)) (fp : List Addr), PE (X.blk s H scope (compEnvC scope cl C X.env) fp) elt (liftE X.K Z we)) (hq : LcHyp dec emb qb t c we) (hsw : swapsWith (.ListComp elt [⟨tg, iter, ifs, 0⟩] scope pos) (some (.Name y py)) spos.line X.env = pure true)
    (hsl : t.slots = own.map (·.2) := by rfl) (hy : X.N[i]? = some y := by rfl) (hyl : X.env.scope.names.lookup y = some .local := by rfl) (hs : ∀ x, foldedSetIterable iter X.env x = pure x := by intro _; rfl) :
    PS X (.Assign [.Name y py] (.ListComp elt [⟨tg, iter, ifs, 0⟩] scope pos) spos) (liftS X.K Z m (dSet i (dLcQ dec emb qb wi t))) := PS.of (ps_setLc hc hN hy hyl hsw hi ok hg ht he hs) fun D σ H ⟨g, F, env, P, k, w, q⟩ => by
  have h2 : liftX X.K Z (dLcQ dec emb qb wi t) σ H fun v H1 => D.nx (σ.set i (some v)) H1 := ⟨g, F, env, _, k, w, fun r env1 v F1 H1 p e1 k1 r1 => q.nx _ _ F1 H1 (bIf_and p).2 e1 (k1.setR (bIf_and p).1 (res_own r1) own_ne)⟩
  have h3 := lift_lc hde hq h2
  rw [hsl] at h3
  exact h3
end
end DL

namespace DL
variable {T : List (PySem.Addr × PySem.Str)} {Z : Zx T}
open PySem PySem.Spec PyProof.Rows L2
open Evl (Ex)

section
variable {K : PySem.W.Frag} {F H : Hp} {vs : List V} {as : List SD}
/-- where the cells handed in stand -/
def cellsAt (vs : List V) (as : List SD) (i : Nat) : Option Addr := match as[i]?, vs[i]? with
  | some (.cel _ _), some (.ref a) => some a
  | _, _ => none
theorem cellsAt_of {i : Nat} {p : Bool} {xs : List PyData} {a : Addr} (h1 : as[i]? = some (.cel p xs)) (h2 : vs[i]? = some (.ref a)) : cellsAt vs as i = some a := by
  unfold cellsAt
  rw [h1, h2]
theorem cellsAt_inv {i : Nat} {a : Addr} (h : cellsAt vs as i = some a) : ∃ p xs, as[i]? = some (.cel p xs) ∧ vs[i]? = some (.ref a) := by
  unfold cellsAt at h
  split at h
  · rename_i p xs b h1 h2
    cases h
    exact ⟨p, xs, h1, h2⟩
  · cases h
def entryZ (T : List (Addr × Str)) (P : Program) (w : World) (F H : Hp) (vs : List V) (as : List SD) : Zx T := ⟨F, H, cellsAt vs as, fun _ => none, P, w, fun _ => none⟩
def entryG (T : List (Addr × Str)) (P : Program) (w : World) (F H : Hp) (vs : List V) (as : List SD) : Gx (entryZ T P w F H vs as) := ⟨fun _ => none, fun _ _ h => h, fun _ _ h => by cases h⟩
theorem start_get {N : List Str} {i : Nat} {v : V} (h : vs[i]? = some v) : (start N vs)[i]? = some (some v) := by
  unfold L2.start
  have hi : i < vs.length := (List.getElem?_eq_some_iff.mp h).1
  rw [List.getElem?_append_left (by simpa using hi), List.getElem?_map, h]
  rfl
theorem args_get {m i : Nat} {r : SD} (h : (as ++ List.replicate m SD.un)[i]? = some r) (hr : r ≠ .un) : as[i]? = some r := by
  by_cases hi : i < as.length
  · rwa [List.getElem?_append_left hi] at h
  · rw [List.getElem?_append_right (by omega), List.getElem?_replicate] at h
    split at h
    · cases h
      exact absurd rfl hr
    · cases h
theorem entry_ok {N ps : List Str} (ha : ArgsOk T K F H vs as) (hl : as.length = ps.length) (hN : ps.length ≤ N.length) {P : Program} {w : World} : Ok K (entryG T P w F H vs as) F (as ++ List.replicate (N.length - ps.length) .un) (start N vs) H where
  len := by
    unfold L2.start
    have := ha.len
    simp
    omega
  fh := ha.fh
  dat := fun i d e => by
    obtain ⟨v, h1, h2⟩ := ha.dat i d (args_get e (fun z => by cases z))
    exact ⟨v, start_get h1, h2⟩
  cel := fun i p xs e => by
    have e := args_get e (fun z => by cases z)
    obtain ⟨rfl, a, us, h1, h2, h3, h4⟩ := ha.cel i p xs e
    exact ⟨a, us, start_get h1, h2, h3, h4, fun _ => cellsAt_of e h1, fun z => by cases z⟩
  sep := fun i j p q xs ys a e1 e2 h1 h2 => by
    have e1 := args_get e1 (fun z => by cases z)
    have e2 := args_get e2 (fun z => by cases z)
    obtain ⟨_, b, _, b1, _⟩ := ha.cel i p xs e1
    obtain ⟨_, c, _, c1, _⟩ := ha.cel j q ys e2
    rw [start_get b1] at h1
    rw [start_get c1] at h2
    cases h1
    cases h2
    exact ha.sep i j p q xs ys _ e1 e2 b1 c1
  pin := fun i a e => by
    obtain ⟨p, xs, h1, h2⟩ := cellsAt_inv e
    obtain ⟨rfl, _⟩ := ha.cel i p xs h1
    refine ⟨xs, ?_⟩
    rw [List.getElem?_append_left (List.getElem?_eq_some_iff.mp h1).1]
    exact h1
  frame := Frm.refl ha.tab
  newF := fun a o e => .inl e
  oldF := ⟨Ex.refl F, ha.nt⟩
  prot := fun a o e => by cases e
  dic := DicsOk.none fun i w e => ha.nod i w (args_get e (fun z => by cases z))
theorem post_of {P : Program} {w : World} {env : List SD} {σ : L2.St} {F' H' : Hp} {v : V} {r : SD} {n : Nat} (k : Ok K (entryG T P w F H vs as) F' env σ H') (hn : ∀ (i : Nat) (p : Bool) (xs : List PyData), as[i]? = some (.cel p xs) → i < n) (hr : ResOk K (entryG T P w F H vs as) F' env σ H' v r) : PostOk T K F H vs as F' H' (env.take n) v r where
  ex := k.oldF.1
  nt := k.oldF.2
  fh := k.fh
  newF := k.newF
  frame := k.frame.weak fun a o e n i z => by
    obtain ⟨p, xs, h1, h2⟩ := cellsAt_inv z
    exact n i p xs h1 h2
  cel := fun i p xs a h1 h2 => by
    have e : (entryG T P w F H vs as).A0 i = some a := cellsAt_of h1 h2
    obtain ⟨ys, h3⟩ := k.pin i a e
    obtain ⟨b, us, _, c2, c3, c4, c5, _⟩ := k.cel i true ys h3
    have c5 := c5 rfl
    rw [e] at c5
    cases c5
    refine ⟨ys, us, ?_, c2, c3, c4⟩
    rw [List.getElem?_take_of_lt (hn _ _ _ h1)]
    exact h3
  res := by
    cases r with
    | un => exact hr
    | dat d => exact hr
    | cel b xs =>
      obtain ⟨a, us, h1, h2, h3, h4, h5, _⟩ := hr
      exact ⟨a, us, h1, h2, h3, h4, h5⟩
    | dic kvs => exact hr.elim
end

section
variable {P : Program} {w : World} {K : PySem.W.Frag} {mg : Str → Option Value} {base : Heap}
/-- the ends of a def's body -/
def defEnds (m : Nat) (Q : SD → List SD → Prop) : DEnds := { nx := fun env => Q (.dat .none) (env.take m), rt := Q }
/-- cells stand ahead of place m alone -/
def CelsIn (m : Nat) (S : DSp) : Prop := ∀ as Q, S as Q → ∀ (i : Nat) (p : Bool) (xs : List PyData), as[i]? = some (.cel p xs) → i < m
/-- a def of the text, by its body read as data -/
theorem dfn (m : Nat) {x qual : Str} {st : Stmt} {f : Addr} {fd : FuncData} {N ps : List Str} {k : Nat} {S : DSp} (Fn : Fun K x qual st f fd) (sc : FnScope N ps (defScope st)) (len : ∀ as Q, S as Q → as.length = ps.length) (cels : CelsIn m S)
    (hbody : ∀ {Z : Zx T} (cdv : Value) (A : Around) (outer : List Env) (s : Shared) (H : Hp), Room k (A.deeper (envOfC qual (defScope st) s.heap.objs.size f cdv)) → (A.deeper (envOfC qual (defScope st) s.heap.objs.size f cdv)).guards = some [] →
      ∃ t : DS, PSs (cxOf CX0 P w K mg base N qual (defScope st) f cdv A outer s H E0).nox (defBody st) (liftS K Z m t) ∧
        ∀ as Q, S as Q → t (defEnds m Q) (as ++ List.replicate (N.length - ps.length) .un)) : FnG P w K mg base T (k + 1) f fd ps S := by
  obtain ⟨oc, od, kV, doc, pm, an, cdv, ct, osl, rfl, lk, hcd⟩ := Fn.ex
  refine ⟨len, fun A outer s H args us vs Q hr hg e0 hb rv ⟨F0, as, PP, ha, hS, hQ⟩ => ?_⟩
  have hl : vs.length = ps.length := ha.len.symm.trans (len as PP hS)
  have hpl : ps.length ≤ N.length := by
    have := congrArg List.length sc.pre
    rw [List.length_take] at this
    omega
  have KX : K.In s.heap := e0.mod.kin.keeps fun b o e => (e0.bs b o e).1
  refine codeAny_call_function hr.depth (KX _ _ lk) rfl sc.co sc.gen rfl (PySem.W.codeRec_of KX hcd) (hb _ _ _ _ (wpAny_newFunctionEnv_cells sc.kind (fun ⟨n, v⟩ hy => ?_) fun env he s1 x => ?_))
  · rcases sc.par n (List.of_mem_zip hy).1 with q | q
    · exact .inl q
    · exact .inr ⟨q, PySem.W.cellsFrom_some _ _ _ (.inl q)⟩
  · subst he
    obtain ⟨t, ht, hq⟩ := hbody (Z := entryZ T P w F0 H vs as) cdv A outer s H (hr.deeper _) hg
    have I : Inv (cxOf CX0 P w K mg base N qual (defScope st) f cdv A outer s H E0) [] (start N vs) H s1 := inv_start sc hr.hd e0 hl rv x
    refine ⟨(e0.mod.nolimit.keeps fun b o e => (e0.bs b o e).1).keeps x.toInCall.keep, codeAny_func (wpAny_mono (ht.nox.run [] s1 (start N vs) H { nx := fun _ H' => Q .non H', rt := Q } I ?_) (fun fl s' hs => ?_) fun e s' hs => hs)⟩
    · have al : as.length = ps.length := len as PP hS
      refine ⟨entryG T P w F0 H vs as, F0, _, _, entry_ok ha al hpl, hq as PP hS, ?_⟩
      exact .mk4 (.mk (fun env' σ' F' H' p _ k' => hQ _ _ _ _ _ p (post_of k' (cels _ _ hS) .non)) (fun _ _ _ _ p => p.elim) (fun _ _ _ _ p => p.elim) (fun r env' v σ' F' H' p _ k' r' => hQ _ _ _ _ _ p (post_of k' (cels _ _ hS) r'))) rfl
    · have fin : ∀ {σ' : L2.St} {H' : Hp} {v : V} {u : Value}, Inv (cxOf CX0 P w K mg base N qual (defScope st) f cdv A outer s H E0) [] σ' H' s' → RelV v u → Q v H' → CE outer P w H s Q u s' :=
        fun {σ' H' v u} J r q => ⟨v, H', J.os, J.bare, J.base, J.hok, r, q⟩
      match fl, hs with
      | .ret u, ⟨v, σ', H', J, r, q⟩ => exact fin J r q
      | .next, ⟨σ', H', J, q⟩ => exact fin (v := V.non) (u := Value.none) J rfl q
      | .brk, ⟨_, _, _, q⟩ => exact q.elim
      | .cont, ⟨_, _, _, q⟩ => exact q.elim
/-- what is asked of a law's def: of a list of the script's numbers it tells True -/
def lawS (n : Nat) : DSp := fun as Q => match as with
  | [.dat (.list ds)] => (∃ ns : List Int, ds = ns.map .int ∧ ns.length ≤ n) ∧ ∀ as', Q (.dat (.bool true)) as'
  | _ => False
theorem drs_ints {F : Hp} : ∀ ns : List Int, DRs K F (ns.map V.int) (ns.map PyData.int)
  | [] => .nil
  | n :: ns => .cons (.int n) (drs_ints ns)
/-- the modules' dict stands -/
def SysD (h : Heap) : Prop := ∃ o es ep, h.get? sysModules = some o ∧ o.data = .dict es ep
class SysB (base : Heap) : Prop where
  out : SysD base
end
end DL

namespace DL
variable {T : List (PySem.Addr × PySem.Str)} {Z : Zx T}
open PySem PySem.Spec PyProof.Rows L2
open Evl (Ex)

/-- a def of the top that keeps its promise -/
structure Dn (P : Program) (w : World) (K : PySem.W.Frag) (mg : Str → Option Value) (base : Heap) (T : List (Addr × Str)) (x : Str) (k : Nat) (ps : List Str) (S : DSp) : Prop where
  ex : ∃ fd, FnG P w K mg base T k (He.ga K x) fd ps S ∧ Binds K fd ps []
  glo : mg x = some (.ref (He.ga K x))
  kp : PySem.W.keepIn K (.ref (He.ga K x)) = true
/-- what the head says of the top -/
structure Top (fa : List He.Fa) (fn : List He.FnD) (K : PySem.W.Frag) (mg : Str → Option Value) : Prop where
  says : He.SaysE fa fn K
  ns : ∃ h, K.In h ∧ h.Ns mainGlobals mg
section
variable {fa : List He.Fa} {fn : List He.FnD} {K : PySem.W.Frag} {mg : Str → Option Value}
theorem Top.glo (T : Top fa fn K mg) (x : Str) (i : Nat) (h : fa[i]? = some (.glo x) := by rfl) : mg x = some (.ref (He.ga K x)) := by
  obtain ⟨hp, h1, h2⟩ := T.ns
  exact He.glo_ok h1 h2 (T.says.fact i h)
theorem Top.free (T : Top fa fn K mg) (x : Str) (i : Nat) (h : fa[i]? = some (.free x) := by rfl) : mg x = none := by
  obtain ⟨hp, h1, h2⟩ := T.ns
  exact He.free_ok h1 h2 (T.says.fact i h)
theorem Top.int (T : Top fa fn K mg) (x : Str) (n : Int) (i : Nat) (h : fa[i]? = some (.int x n) := by rfl) : ∃ t, mg x = some (.int n t) := by
  obtain ⟨hp, h1, h2⟩ := T.ns
  exact He.int_ok h1 h2 (T.says.fact i h)
theorem Top.keep (T : Top fa fn K mg) (x : Str) (i : Nat) (h : fa[i]? = some (.keep x) := by rfl) : PySem.W.keepIn K (.ref (He.ga K x)) = true := He.keep_ok (T.says.fact i h)
theorem Top.fun_ (T : Top fa fn K mg) (x : Str) (st : Stmt) (i j : Nat) (h : fn[i]? = some ⟨(x, none), x, x, defArgs st, defBody st, defScope st⟩ := by rfl) (hk : fa[j]? = some (.keep x) := by rfl) :
    ∃ kV doc pm an cdv ct, Fun K x x st (He.ga K x) (PySem.W.fnOf x x (defArgs st) (defBody st) (defScope st) .none kV doc pm an cdv ct) := by
  obtain ⟨oc, od, osl, kV, doc, pm, an, cdv, ct, h1, h2⟩ := T.says.def_ i h
  exact ⟨kV, doc, pm, an, cdv, ct, fun_mk h1 h2 (T.keep x j hk)⟩
/-- a module's whole number -/
theorem dnum {X : Cx} {x : Str} {n : Int} {pos : Pos} (hm : ∃ t, X.mg x = some (.int n t)) (hg : Gl X x := by rfl) (hdb : (x == ("__debug__" : Str)) = false := by decide) : PE X (.Name x pos) (liftE X.K Z (dC (.int n))) := by
  obtain ⟨t, h⟩ := hm
  exact dglob (v := .int n) h ⟨t, rfl⟩ (fun _ => .int n) hg hdb
end
section
variable {X : Cx} {k : Nat} {ps : List Str} {S : DSp} {x : Str} {p pos : Pos} {e : Expr} {es : List Expr} {was : DA}
theorem dcn (D : Dn X.prog X.w X.K X.mg X.base T x k ps S) (hr : Room k X.A) (hA : X.A.guards = some [])
    (ha : PA X (e :: es) (liftA X.K Z was)) (hg : Gl X x := by rfl) (hdb : (x == ("__debug__" : Str)) = false := by decide)
    (he : starEach (e :: es) X.env = (false, eval e X.env) :: starEach es X.env := by rfl) (hpl : (backTo pos (starEach es X.env)).any (·.1) = false := by rfl) : PE X (.Call (.Name x p) (e :: es) [] pos) (liftX X.K Z (dCall S was)) := by
  obtain ⟨fd, h1, h2⟩ := D.ex
  exact dcall h1 hr hA D.glo D.kp h2 ha hg hdb he hpl
theorem dcnC (i : Nat) {y : Str} {p0 : Pos} (D : Dn X.prog X.w X.K X.mg X.base T x k ps S) (hr : Room k X.A) (hA : X.A.guards = some [])
    (ha : PA X es (liftA X.K Z was)) (hN : X.N[i]? = some y := by rfl) (hv : Vis X.env.scope y := by first | exact Or.inl rfl | exact Or.inr (Or.inl rfl) | exact Or.inr (Or.inr rfl)) (hd : (y == ("__debug__" : Str)) = false := by decide)
    (hcd : (y == ("__classdict__" : Str)) = false := by decide) (hg : Gl X x := by rfl) (hdb : (x == ("__debug__" : Str)) = false := by decide)
    (he : starEach (.Name y p0 :: es) X.env = (false, eval (.Name y p0) X.env) :: starEach es X.env := by rfl) (hpl : (backTo pos (starEach es X.env)).any (·.1) = false := by rfl) :
    PE X (.Call (.Name x p) (.Name y p0 :: es) [] pos) (liftX X.K Z (dCallC S i was)) := by
  obtain ⟨fd, h1, h2⟩ := D.ex
  exact dcallC i h1 hr hA D.glo D.kp h2 ha hN hv hd hcd hg hdb he hpl
end
theorem sysB_of {h : Heap} (e : sysB h.get? = true) : SysD h := by
  unfold sysB at e
  split at e
  · rename_i c di es ep sl z
    exact ⟨_, es, ep, z, rfl⟩
  · cases e
end DL

namespace DL
variable {T : List (PySem.Addr × PySem.Str)} {Z : Zx T}
open PySem PySem.Spec PyProof.Rows L2
open Evl (Ex)

mutual
/-- leaves that can be shown -/
def rp : PyData → Bool
  | .none => true
  | .bool _ => true
  | .int i => decide (i.natAbs < 10 ^ 250)
  | .str x => x.cps.toList.all fun c => decide (c < 16 ^ 8)
  | .list xs => rpAll xs
  | .tuple xs => rpAll xs
  | .dict kvs => kvs.isEmpty
def rpAll : List PyData → Bool
  | [] => true
  | x :: xs => rp x && rpAll xs
end
section
variable {X : Cx} {K : PySem.W.Frag} {e : Expr} {es : List Expr} {p pos : Pos} {was : DA} {k : Nat}
/-- sum of a list, of a tuple of whole numbers -/
def rSumD (K : PySem.W.Frag) : List V → Hp → VK → Prop := fun vs H Q => ∃ (a : Addr) (ns : List Int), vs = [.ref a] ∧ (SqL K H a (ns.map V.int) ∨ SqT K H a (ns.map V.int)) ∧ Q (.int ns.sum) H
theorem call_sumD (hc : X.calm = true) : CallR X (.builtin "sum") (rSumD X.K) := by
  intro pins s σ H xs us Q I r h
  obtain ⟨a, ns, rfl, h | h, q⟩ := h
  · exact cr_sum hc pins s σ H _ us Q I r ⟨a, ns, rfl, h, q⟩
  · cases r.ref1
    obtain ⟨its, rv, ht, hz⟩ := I.tuple h
    have hi := rv.ints
    obtain ⟨xs, hx⟩ := hi.allInts.items
    have hn : numsOf its.toArray.toList = ns := by rw [show its.toArray.toList = its from rfl, hi.numsOf]
    have ht2 : s.heap.IsTuple a its.toArray := ht
    rw [hx] at ht2 hn
    rw [nums_intItems] at hn
    refine PySem.W.ktm_sumG (I.ok.hd hc) ht2 fun h' tk t' hk => ?_
    rw [preSum_eq, List.take_of_length_le (by simp), hn]
    exact ⟨.int ns.sum, H, I.kept hk, ⟨_, rfl⟩, q⟩
def nSum (xs : List PyData) (P : PyData → Prop) : Prop := match xs with
  | [.list ds] => (match intsD ds with | some ns => P (.int ns.sum) | none => False)
  | [.tuple ds] => (match intsD ds with | some ns => P (.int ns.sum) | none => False)
  | _ => False
theorem dsum (hm : X.mg "sum" = none) (hc : X.calm = true) (ha : PA X (e :: es) (liftA X.K Z was)) (hg : Gl X "sum" := by rfl)
    (he : starEach (e :: es) X.env = (false, eval e X.env) :: starEach es X.env := by rfl) (hpl : (backTo pos (starEach es X.env)).any (·.1) = false := by rfl) : PE X (.Call (.Name "sum" p) (e :: es) [] pos) (liftE X.K Z (dB nSum was)) :=
  dcb (call_sumD hc) (fun _ _ g F env σ H vs ds P Q k r f q => by
    unfold nSum at f
    split at f
    · split at f
      · rename_i ns e
        obtain ⟨v, rfl, r0⟩ := r.inv1
        obtain ⟨a, us, rfl, h1, h2⟩ := r0.inv_lst
        cases ints_rel h2 e
        exact ⟨a, ns, rfl, .inl (h1.mono k.fh).sq, q _ _ F H f (Ex.refl F) k (.int _)⟩
      · exact f.elim
    · split at f
      · rename_i ns e
        obtain ⟨v, rfl, r0⟩ := r.inv1
        obtain ⟨a, us, rfl, h1, h2⟩ := r0.inv_tup
        cases ints_rel h2 e
        exact ⟨a, ns, rfl, .inr (Evl.ex_t k.fh h1), q _ _ F H f (Ex.refl F) k (.int _)⟩
      · exact f.elim
    · exact f.elim) hm (by decide +kernel) ha hg (by decide) (by decide) he hpl
end
end DL

namespace DL
variable {T : List (PySem.Addr × PySem.Str)} {Z : Zx T}
open PySem PySem.Spec PyProof.Rows L2

section
variable {I S : Type}
theorem qFor_go {b : PyData → I → S → (I → S → Prop) → (I → S → Prop) → Prop} {items : List PyData} {i : I} {K : S → Prop} (Inv : Nat → S → Prop)
    (step : ∀ (k : Nat) (d : PyData) (s : S) (nx : I → S → Prop), items[k]? = some d → Inv k s → (∀ s', Inv (k + 1) s' → nx i s') → b d i s nx (same i K))
    (fin : ∀ s, Inv items.length s → K s) : ∀ (m k : Nat) (s : S), k + m = items.length → Inv k s → qFor b i (items.drop k) s K
  | 0, k, s, hm, h => by
    have e : k = items.length := by omega
    subst e
    rw [List.drop_length]
    exact fin s h
  | m + 1, k, s, hm, h => by
    have hk : k < items.length := by omega
    rw [List.drop_eq_getElem_cons hk]
    exact step k _ s _ (by simp [hk]) h fun s' h' => ⟨rfl, qFor_go Inv step fin m (k + 1) s' (by omega) h'⟩
/-- a for, by what holds ahead of each turn -/
theorem qFor_ind {b : PyData → I → S → (I → S → Prop) → (I → S → Prop) → Prop} {items : List PyData} {i : I} {s : S} {K : S → Prop} (Inv : Nat → S → Prop) (h0 : Inv 0 s)
    (step : ∀ (k : Nat) (d : PyData) (s : S) (nx : I → S → Prop), items[k]? = some d → Inv k s → (∀ s', Inv (k + 1) s' → nx i s') → b d i s nx (same i K))
    (fin : ∀ s, Inv items.length s → K s) : qFor b i items s K := qFor_go Inv step fin items.length 0 s (by omega) h0
/-- a for over a range -/
theorem qFor_range {b : PyData → I → S → (I → S → Prop) → (I → S → Prop) → Prop} {lo : Int} {n : Nat} {i : I} {s : S} {K : S → Prop} (Inv : Nat → S → Prop) (h0 : Inv 0 s)
    (step : ∀ (k : Nat) (s : S) (nx : I → S → Prop), k < n → Inv k s → (∀ s', Inv (k + 1) s' → nx i s') → b (.int (lo + k)) i s nx (same i K))
    (fin : ∀ s, Inv n s → K s) : qFor b i (rangeD lo n) s K := by
  have hl : (rangeD lo n).length = n := by simp [rangeD]
  refine qFor_ind Inv h0 (fun k d s nx hd hi hn => ?_) fun s h => fin s (by rwa [hl] at h)
  unfold rangeD at hd
  rw [List.getElem?_map] at hd
  by_cases hk : k < n
  · rw [List.getElem?_range hk] at hd
    cases hd
    exact step k s nx hk hi hn
  · rw [List.getElem?_eq_none (by simp; omega)] at hd
    cases hd
/-- a for whose turns carry nothing -/
theorem qFor_all {b : PyData → I → S → (I → S → Prop) → (I → S → Prop) → Prop} {items : List PyData} {i : I} {s : S} {K : S → Prop} (Inv : S → Prop) (h0 : Inv s)
    (step : ∀ (d : PyData) (s : S) (nx : I → S → Prop), d ∈ items → Inv s → (∀ s', Inv s' → nx i s') → b d i s nx (same i K)) (fin : ∀ s, Inv s → K s) : qFor b i items s K :=
  qFor_ind (fun _ s => Inv s) h0 (fun _ d s nx hd hi hn => step d s nx (List.mem_of_getElem? hd) hi hn) fun s h => fin s h
theorem qWhile_go {b : I → S → (I → S → Prop) → (I → S → Prop) → Prop} {i : I} {K : S → Prop} (Inv : Nat → S → Prop)
    (step : ∀ (m : Nat) (s : S) (nx : I → S → Prop), Inv m s → (∀ m' s', m' < m → Inv m' s' → nx i s') → b i s nx (same i K)) : ∀ (n m : Nat) (s : S), m < n → Inv m s → qWhileN b i n s K
  | 0, _, _, h, _ => absurd h (Nat.not_lt_zero _)
  | n + 1, m, s, h, hi => step m s _ hi fun m' s' hm hi' => ⟨rfl, qWhile_go Inv step n m' s' (by omega) hi'⟩
/-- a while, by a measure that falls -/
theorem qWhile_ind {b : I → S → (I → S → Prop) → (I → S → Prop) → Prop} {i : I} {s : S} {K : S → Prop} (Inv : Nat → S → Prop) {m : Nat} (h0 : Inv m s)
    (step : ∀ (m : Nat) (s : S) (nx : I → S → Prop), Inv m s → (∀ m' s', m' < m → Inv m' s' → nx i s') → b i s nx (same i K)) : qWhile b i s K := ⟨m + 1, qWhile_go Inv step (m + 1) m s (Nat.lt_succ_self m) h0⟩
theorem qLc_go {b : PyData → I → S → (I → S → Prop) → (PyData → I → S → Prop) → Prop} {items : List PyData} {i : I} {K : List PyData → S → Prop} (Inv : Nat → List PyData → S → Prop)
    (step : ∀ (k : Nat) (d : PyData) (acc : List PyData) (s : S) (sk : I → S → Prop) (yd : PyData → I → S → Prop), items[k]? = some d → Inv k acc s → (∀ s', Inv (k + 1) acc s' → sk i s') →
      (∀ y s', acc.length < 100000 → Inv (k + 1) (acc ++ [y]) s' → yd y i s') → b d i s sk yd) (hz : ∀ k acc s, k < items.length → Inv k acc s → acc.length < 100000)
    (fin : ∀ acc s, Inv items.length acc s → K acc s) : ∀ (m k : Nat) (acc : List PyData) (s : S), k + m = items.length → Inv k acc s → qLc b i (items.drop k) acc s K
  | 0, k, acc, s, hm, h => by
    have e : k = items.length := by omega
    subst e
    rw [List.drop_length]
    exact fin acc s h
  | m + 1, k, acc, s, hm, h => by
    have hk : k < items.length := by omega
    rw [List.drop_eq_getElem_cons hk]
    exact step k _ acc s _ _ (by simp [hk]) h (fun s' h' => ⟨rfl, qLc_go Inv step hz fin m (k + 1) acc s' (by omega) h'⟩) fun y s' hl h' => ⟨rfl, hz k acc s hk h, qLc_go Inv step hz fin m (k + 1) (acc ++ [y]) s' (by omega) h'⟩
/-- a comprehension, by what holds ahead of each turn -/
theorem qLc_ind {b : PyData → I → S → (I → S → Prop) → (PyData → I → S → Prop) → Prop} {items : List PyData} {i : I} {s : S} {K : List PyData → S → Prop} (Inv : Nat → List PyData → S → Prop) (h0 : Inv 0 [] s)
    (hz : ∀ k acc s, k < items.length → Inv k acc s → acc.length < 100000)
    (step : ∀ (k : Nat) (d : PyData) (acc : List PyData) (s : S) (sk : I → S → Prop) (yd : PyData → I → S → Prop), items[k]? = some d → Inv k acc s → (∀ s', Inv (k + 1) acc s' → sk i s') →
      (∀ y s', Inv (k + 1) (acc ++ [y]) s' → yd y i s') → b d i s sk yd)
    (fin : ∀ acc s, Inv items.length acc s → K acc s) : qLc b i items [] s K :=
  qLc_go Inv (fun k d acc s sk yd hd hi h1 h2 => step k d acc s sk yd hd hi h1 fun y s' h => h2 y s' (hz k acc s (List.getElem?_eq_some_iff.mp hd).1 hi) h) hz fin items.length 0 [] s (by omega) h0
/-- [f x for x in items], nothing changed -/
theorem qLc_map {b : PyData → I → S → (I → S → Prop) → (PyData → I → S → Prop) → Prop} {items : List PyData} {i : I} {s : S} {K : List PyData → S → Prop} (f : PyData → PyData) (hz : items.length ≤ 100000)
    (step : ∀ d ∈ items, ∀ (sk : I → S → Prop) (yd : PyData → I → S → Prop), yd (f d) i s → b d i s sk yd) (fin : K (items.map f) s) : qLc b i items [] s K :=
  qLc_ind (fun k acc s' => acc = (items.take k).map f ∧ s' = s) ⟨by simp, rfl⟩ (fun k acc s' hk h => by rw [h.1]; simp; omega)
    (fun k d acc s' sk yd hd ⟨h1, h2⟩ _ hy => by
      subst h2
      refine step d (List.mem_of_getElem? hd) sk yd (hy _ _ ⟨?_, rfl⟩)
      rw [List.take_add_one, hd, h1]
      simp) fun acc s' ⟨h1, h2⟩ => by
      subst h1 h2
      rw [List.take_length]
      exact fin
/-- [.. for x in items if ..], nothing changed -/
theorem qLc_fmap {b : PyData → I → S → (I → S → Prop) → (PyData → I → S → Prop) → Prop} {items : List PyData} {i : I} {s : S} {K : List PyData → S → Prop} (f : PyData → Option PyData) (hz : items.length ≤ 100000)
    (step : ∀ d ∈ items, ∀ (sk : I → S → Prop) (yd : PyData → I → S → Prop), (∀ y, f d = some y → yd y i s) → (f d = none → sk i s) → b d i s sk yd) (fin : K (items.filterMap f) s) : qLc b i items [] s K :=
  qLc_ind (fun k acc s' => acc = (items.take k).filterMap f ∧ s' = s) ⟨by simp, rfl⟩ (fun k acc s' hk h => by
      rw [h.1]
      exact Nat.lt_of_le_of_lt (List.length_filterMap_le f _) (by simp; omega))
    (fun k d acc s' sk yd hd ⟨h1, h2⟩ hs hy => by
      subst h2
      refine step d (List.mem_of_getElem? hd) sk yd (fun y e => hy _ _ ⟨?_, rfl⟩) fun e => hs _ ⟨?_, rfl⟩
      · rw [List.take_add_one, hd, h1]
        simp [e]
      · rw [List.take_add_one, hd, h1]
        simp [e]) fun acc s' ⟨h1, h2⟩ => by
      subst h1 h2
      rw [List.take_length]
      exact fin
end
theorem ixN_in {n : Nat} {k : Int} (h0 : 0 ≤ k) (h1 : k < n) : ixN n k = some k.toNat := by
  unfold ixN
  rw [if_pos h0, if_pos h1]
theorem atI_in {xs : List PyData} {k : Int} (h0 : 0 ≤ k) (h1 : k < xs.length) : ∃ d, atI xs k = some d ∧ d ∈ xs := by
  unfold atI
  rw [ixN_in h0 h1]
  have hk : k.toNat < xs.length := by omega
  exact ⟨xs[k.toNat], by simp [hk], List.getElem_mem hk⟩
theorem at_of {xs : List PyData} {k : Int} {P : PyData → Prop} (h0 : 0 ≤ k) (h1 : k < xs.length) (h : ∀ d ∈ xs, P d) : pick xs k P := by
  obtain ⟨d, e, m⟩ := atI_in h0 h1
  unfold pick
  rw [e]
  exact h d m
theorem pick_eq {xs : List PyData} {k : Int} {P : PyData → Prop} {d : PyData} (e : atI xs k = some d) : pick xs k P = P d := by
  unfold pick
  rw [e]
theorem range_get {lo : Int} {n i : Nat} {d : PyData} (h : (rangeD lo n)[i]? = some d) : i < n ∧ d = .int (lo + i) := by
  unfold rangeD at h
  rw [List.getElem?_map] at h
  by_cases hi : i < n
  · rw [List.getElem?_range hi] at h
    cases h
    exact ⟨hi, rfl⟩
  · rw [List.getElem?_eq_none (by simp; omega)] at h
    cases h
theorem range_len {lo : Int} {n : Nat} : (rangeD lo n).length = n := by simp [rangeD]
end DL

namespace DL
variable {T : List (PySem.Addr × PySem.Str)} {Z : Zx T}
open PySem PySem.Spec PyProof.Rows L2
open Evl (Ex)

section
variable {X : Cx} {a b e : Expr} {es : List Expr} {we wa wb : DE} {was : DA} {pos p2 p : Pos} {K : PySem.W.Frag}
theorem PO.of {e : Option Expr} {t t' : TO} (h : PO X e t) (w : ∀ σ H Q, t' σ H Q → t σ H Q) : PO X e t' := ⟨fun pins s σ H Q I q => h.run pins s σ H Q I (w σ H Q q)⟩
def soQ (x : PyData) (K : Option Int → Prop) : Prop := match x with
  | .int i => K (some i)
  | _ => False
/-- the items of ds[lo:hi] -/
def cutD (ds : List PyData) (lo hi : Option Int) : List PyData := (ds.drop (HT.sIx ds.length 0 lo)).take (HT.sIx ds.length ds.length hi - HT.sIx ds.length 0 lo)
def oSl (x : PyData) (lo hi : Option Int) (P : PyData → Prop) : Prop := match x with
  | .tuple ds => P (.tuple (cutD ds lo hi))
  | .list ds => P (.list (cutD ds lo hi))
  | .str z => z.length ≤ 100000 ∧ P (.str (cutS z lo hi))
  | _ => False
def lstQ (x : PyData) (K : List PyData → Prop) : Prop := match x with
  | .list ds => K ds
  | _ => False
def nInt (xs : List PyData) (P : PyData → Prop) : Prop := match xs with
  | [.int i] => P (.int i)
  | [.bool i] => P (.int (if i then 1 else 0))
  | _ => False
theorem dintOf (hm : X.mg "int" = none) (ha : PA X (e :: es) (liftA X.K Z was)) (hg : Gl X "int" := by rfl)
    (he : starEach (e :: es) X.env = (false, eval e X.env) :: starEach es X.env := by rfl) (hpl : (backTo pos (starEach es X.env)).any (·.1) = false := by rfl) : PE X (.Call (.Name "int" p) (e :: es) [] pos) (liftE X.K Z (dB nInt was)) :=
  dct call_int1 (fun _ _ g F env σ H vs ds P Q k r f q => by
    unfold nInt at f
    split at f
    · obtain ⟨v, rfl, r0⟩ := r.inv1
      cases r0.inv_int
      exact .inl ⟨_, rfl, q _ _ F H f (Ex.refl F) k (.int _)⟩
    · obtain ⟨v, rfl, r0⟩ := r.inv1
      cases r0.inv_bool
      exact .inr ⟨_, rfl, q _ _ F H f (Ex.refl F) k (.int _)⟩
    · exact f.elim) hm (by decide +kernel) ha hg (by decide) (by decide) he hpl
def nTuple (xs : List PyData) (P : PyData → Prop) : Prop := match xs with
  | [.list ds] => P (.tuple ds)
  | [.tuple ds] => P (.tuple ds)
  | [.dict [(.none, .list ds)]] => P (.tuple ds)
  | _ => False
/-- tuple(xs) of a name's own cell -/
abbrev dTupC (i : Nat) (env : List SD) (P : PyData → List SD → Prop) : Prop := match env[i]? with
  | some (.cel _ xs) => P (.tuple xs) env
  | _ => False
theorem dtupC (i : Nat) {x : Str} {p0 : Pos} (hm : X.mg "tuple" = none) (hN : X.N[i]? = some x := by rfl)
    (hv : Vis X.env.scope x := by first | exact Or.inl rfl | exact Or.inr (Or.inl rfl) | exact Or.inr (Or.inr rfl)) (hd : (x == ("__debug__" : Str)) = false := by decide) (hcd : (x == ("__classdict__" : Str)) = false := by decide) (hg : Gl X "tuple" := by rfl)
    (na : starEach [.Name x p0] X.env = (false, eval (.Name x p0) X.env) :: starEach [] X.env := by rfl) : PE X (.Call (.Name "tuple" p) [.Name x p0] [] pos) (liftE X.K Z (dTupC i)) :=
  PE.of (pe_tupleZ hg hm (pe_var hN hv hd hcd) na) fun σ H Q ⟨g, F, env, P, k, w, q⟩ => by
    unfold dTupC at w
    split at w
    · rename_i p xs e
      obtain ⟨a0, vs, h1, h2, h3, h4, h5⟩ := k.cel i p xs e
      refine ⟨_, h1, .inl ⟨a0, vs, rfl, SqL.of h3, fun x o hx ho => ?_⟩⟩
      obtain ⟨e4, k4, r4⟩ := k.newTup hx ho h4
      exact q _ _ _ _ _ w e4 k4 r4
    · exact w.elim
/-- len(xs) of a name's own cell -/
abbrev dLenC (i : Nat) (env : List SD) (P : PyData → List SD → Prop) : Prop := match env[i]? with
  | some (.cel _ xs) => P (.int (xs.length : Nat)) env
  | _ => False
theorem dlenC (i : Nat) {x : Str} {p0 : Pos} (hm : X.mg "len" = none) (hN : X.N[i]? = some x := by rfl)
    (hv : Vis X.env.scope x := by first | exact Or.inl rfl | exact Or.inr (Or.inl rfl) | exact Or.inr (Or.inr rfl)) (hd : (x == ("__debug__" : Str)) = false := by decide) (hcd : (x == ("__classdict__" : Str)) = false := by decide) (hg : Gl X "len" := by rfl)
    (na : starEach [.Name x p0] X.env = (false, eval (.Name x p0) X.env) :: starEach [] X.env := by rfl) (hpl : (backTo pos (starEach [] X.env)).any (·.1) = false := by rfl) : PE X (.Call (.Name "len" p) [.Name x p0] [] pos) (liftE X.K Z (dLenC i)) :=
  PE.of (pe_callB call_len hg hm PySem.boot_len (pa_cons (pe_var hN hv hd hcd) pa_nil na) (by decide) (by decide) na hpl) fun σ H Q ⟨g, F, env, P, k, w, q⟩ => by
    unfold dLenC at w
    split at w
    · rename_i p xs e
      obtain ⟨a0, vs, h1, h2, h3, h4, h5⟩ := k.cel i p xs e
      exact ⟨_, h1, _, vs.length, rfl, .inl ⟨vs, SqL.of h3, rfl⟩, by rw [h4.length]; exact q _ _ _ F H w (Ex.refl F) k (.int _)⟩
    · exact w.elim
def nList (xs : List PyData) (P : List PyData → Prop) : Prop := match xs with
  | [.list ds] => P ds
  | [.tuple ds] => P ds
  | _ => False
/-- a name's own cell stays as it is from here on, or its datum -/
abbrev dFreeze2 (i : Nat) (w : DS) (E : DEnds) (env : List SD) : Prop := match env[i]? with
  | some (.cel false xs) => w E (env.set i (.dat (.list xs)))
  | some (.dat _) => w E env
  | _ => False
theorem ssfreeze2 {sts : List Stmt} {m : Nat} {w : DS} (i : Nat) (h : PSs X sts (liftS X.K Z m w)) : PSs X sts (liftS X.K Z m (dFreeze2 i w)) := PSs.of h fun D σ H ⟨g, F, env, P, k, w, q⟩ => by
  unfold dFreeze2 at w
  split at w
  · rename_i xs e
    obtain ⟨F', e1, k1⟩ := k.freeze e
    exact ⟨g, F', _, P, k1, w, q.ex e1⟩
  · exact ⟨g, F, env, P, k, w, q⟩
  · exact w.elim
end
end DL

namespace DL
variable {T : List (PySem.Addr × PySem.Str)} {Z : Zx T}
open PySem PySem.Spec PyProof.Rows L2
open Evl (Ex)

section
variable {X : Cx} {a b e : Expr} {es : List Expr} {we wa wb : DE} {was : DA} {pos p p1 p2 p3 : Pos} {K : PySem.W.Frag}
theorem DRs.snoc {H : Hp} {v : V} {d : PyData} : ∀ {vs : List V} {ds : List PyData}, DRs K H vs ds → DR K H v d → DRs K H (vs ++ [v]) (ds ++ [d])
  | _, _, .nil, r => .cons r .nil
  | _, _, .cons h t, r => .cons h (DRs.snoc t r)
end
end DL

namespace DL
variable {T : List (PySem.Addr × PySem.Str)} {Z : Zx T}
open PySem PySem.Spec PyProof.Rows L2
open Evl (Ex)

def jn {α : Type} (f : α → Prop) (k : α) : Prop := f k
def tAnd (b : Bool) (u : (Bool → Prop) → Prop) (K : Bool → Prop) : Prop := bIf b (u K) (K false)
def tOr (b : Bool) (u : (Bool → Prop) → Prop) (K : Bool → Prop) : Prop := bIf b (K true) (u K)
def vAnd (b : Bool) (u : (PyData → Prop) → Prop) (K : PyData → Prop) : Prop := bIf b (u K) (K (.bool false))
def vOr (b : Bool) (u : (PyData → Prop) → Prop) (K : PyData → Prop) : Prop := bIf b (K (.bool true)) (u K)
def vIf (b : Bool) (u v : (PyData → Prop) → Prop) (K : PyData → Prop) : Prop := bIf b (u K) (v K)
theorem at_env {t : DS} {E : DEnds} {a b : List SD} (e : a = b) (h : t E b) : t E a := e ▸ h
theorem cels1 {c : List PyData} {ds : List PyData} {i : Nat} {p : Bool} {xs : List PyData} (e : (SD.cel true c :: ds.map .dat)[i]? = some (.cel p xs)) : i < 1 := by
  cases i with
  | zero => exact Nat.zero_lt_one
  | succ i => exact absurd (by simpa using e) (no_cel (ds := ds) i p xs)
end DL

namespace DL
variable {T : List (PySem.Addr × PySem.Str)} {Z : Zx T}
open PySem PySem.Spec PyProof.Rows L2
open Evl (Ex)
section
variable {X : Cx} {a b e : Expr} {es : List Expr} {we wa wb : DE} {was : DA} {pos p p1 p2 p3 : Pos} {K : PySem.W.Frag} {m : Nat}
theorem DRs.flat {F : Hp} {vs : List V} {ds : List PyData} (r : DRs K F vs ds) : ∀ n : Nat, DRs K F (List.replicate n vs).flatten (List.replicate n ds).flatten
  | 0 => .nil
  | n + 1 => by
    rw [List.replicate_succ, List.replicate_succ, List.flatten_cons, List.flatten_cons]
    exact r.append (DRs.flat r n)
theorem tuple_mul1 (l : Addr) (items : Array Value) (n : Nat) (dd : Option Addr) (sl : Array (Option Value)) (u : Tok) :
    Meets (Builtin.«tuple.__mul__» ⟨[.ref l, .int 1 u], []⟩) (fun _ R s => s.heap.get? l = some { cls := .type "tuple", dict := dd, data := .seq items n, slots := sl } ∧ R (.ok (.ret (Value.ref l))) s) :=
  .of_wp fun prog w A R s h => by
    obtain ⟨hp, g, d, tk, os⟩ := s
    obtain ⟨hl, h⟩ := h
    have f1 := AutoSeq1.idx_int
    have c1 : (items.isEmpty || (1 : Int) == 1) = true := by simp
    wp_walk using wpAny_loadPart' hl
    repeat (first
      | (refine wpAny_ite_false (decide_eq_false (by decide)) ?_; wp_walk using wpAny_loadPart' hl)
      | (refine wpAny_ite_true (decide_eq_true c1) ?_; wp_walk using wpAny_loadPart' hl))
    exact ⟨_, rfl, h⟩
def rRepT1 (K : PySem.W.Frag) : R2 := fun x y H Q => ∃ l xs, x = .ref l ∧ y = .int 1 ∧ SqT K H l xs ∧ Q (.ref l) H
theorem op_repT1 {X : Cx} : OpR X (binaryOp .Mult) (rRepT1 X.K) := by
  intro pins s σ H x y v u Q I rx ry h
  obtain ⟨l, xs, rfl, rfl, hT, q⟩ := h
  cases rx
  obtain ⟨t, rfl⟩ := ry
  obtain ⟨its, r, ⟨⟨cls, dd, data, sl⟩, ho, hc, n, hd⟩, hs⟩ := I.tuple hT
  simp only at hc hd
  subst hc hd
  exact wpAny_binaryOp_repeat_ref (T := "tuple") (U := "int") (by decide) ⟨_, ho, rfl⟩ (fun s' => typeIs_int s' 1 t) noFill_tuple_mul F.fills_int_mul F.slot_int_rmul repeat_tuple F.slot_int_index.lookup
    (call_meets F.slot_int_rmul (typeIs_int s 1 t) F.entry_int_rmul (F.args_int_rmul_2 _ _) (int_rmul_tuple 1 t l its.toArray n dd sl)
      ⟨ho, rfl, ⟨_, ho, rfl⟩, call_meets F.slot_tuple_mul ⟨_, ho, rfl⟩ F.entry_tuple_mul (F.args_tuple_mul_2 _ _) (tuple_mul1 l its.toArray n dd sl t) ⟨ho, ⟨.ref l, H, I, rfl, q⟩⟩⟩)
def oMul (x y : PyData) (P : PyData → Prop) : Prop := match x, y with
  | .int i, .int j => (Sz i ∧ Sz j) ∧ P (.int (i * j))
  | .tuple xs, .int k => (xs ≠ [] ∧ 1 ≤ k ∧ k ≤ 1000 ∧ xs.length ≤ 1000) ∧ P (.tuple (List.replicate k.toNat xs).flatten)
  | _, _ => False
theorem opd_mul {r : R2} (h : OpD K r oMulI) : OpD K (fun x y H Q => r x y H Q ∨ (rRepT1 K x y H Q ∨ rRepZ K x y H Q)) oMul := by
  intro _ _ g F env σ H vx vy dx dy P Q k rx ry p q
  unfold oMul at p
  split at p
  · exact .inl (h _ _ g F env σ H vx vy _ _ P Q k rx ry p q)
  · rename_i xs n
    cases ry.inv_int
    obtain ⟨a, us, rfl, h1, h2⟩ := rx.inv_tup
    obtain ⟨⟨z1, z2, z3, z4⟩, p⟩ := p
    by_cases e1 : n = 1
    · subst e1
      have e : (List.replicate (Int.toNat 1) xs).flatten = xs := by
        show (List.replicate 1 xs).flatten = xs
        simp
      rw [e] at p
      exact .inr (.inl ⟨a, us, rfl, rfl, Evl.ex_t k.fh h1, q _ _ F H p (Ex.refl F) k rx⟩)
    refine .inr (.inr ⟨a, n, us, rfl, rfl, Evl.ex_t k.fh h1, fun e => z1 ?_, by omega, z3, by rw [h2.length]; exact z4, fun x o hx ho => ?_⟩)
    · subst e
      cases h2
      rfl
    · obtain ⟨e2, k2, r2⟩ := k.newTup hx ho (DRs.flat h2 n.toNat)
      exact q _ _ _ _ p e2 k2 r2
  · exact p.elim
theorem dmul (ha : PE X a (liftE X.K Z wa)) (hb : PE X b (liftE X.K Z wb)) : PE X (.BinOp a .Mult b pos) (liftE X.K Z (dOp oMul wa wb)) := dop (OpR.or op_mulW (OpR.or op_repT1 op_repZ)) (opd_mul (opd_I (fun _ _ h => by have h1 := h.1.log; have h2 := h.2.log; unfold CMulW; omega) fun _ _ _ => .int _)) ha hb
/-- xs[::-1] of a list, that stays -/
def oRev (x : PyData) (P : PyData → Prop) : Prop := lstQ x fun ds => P (.list ds.reverse)
end
end DL

namespace DL
variable {T : List (PySem.Addr × PySem.Str)} {Z : Zx T}
open PySem PySem.Spec PyProof.Rows L2
section
variable {P K : PyData → Prop} {a b c : Int} {x y : PyData} {xs ys : List PyData} {T : Bool → Prop}
theorem q_bT : bT (.bool t) T = T t := rfl
theorem q_add : oAdd (.int a) (.int b) P = P (.int (a + b)) := rfl
theorem q_addT : oAdd (.tuple xs) (.tuple ys) P = (xs.length + ys.length ≤ 100000 ∧ P (.tuple (xs ++ ys))) := rfl
theorem q_addL : oAdd (.list xs) (.list ys) P = (xs.length + ys.length ≤ 100000 ∧ P (.list (xs ++ ys))) := rfl
theorem q_addS {i j : Str} : oAdd (.str i) (.str j) P = (i.length + j.length ≤ 100000 ∧ P (.str (i ++ j))) := rfl
theorem q_sub : oSub (.int a) (.int b) P = P (.int (a - b)) := rfl
theorem q_mul : oMul (.int a) (.int b) P = ((Sz a ∧ Sz b) ∧ P (.int (a * b))) := rfl
theorem q_mulT : oMul (.tuple xs) (.int b) P = ((xs ≠ [] ∧ 1 ≤ b ∧ b ≤ 1000 ∧ xs.length ≤ 1000) ∧ P (.tuple (List.replicate b.toNat xs).flatten)) := rfl
theorem q_div : oDiv (.int a) (.int b) P = ((0 < b ∧ Sz b) ∧ P (.int (a / b))) := rfl
theorem q_mod : oMod (.int a) (.int b) P = (0 < b ∧ P (.int (a % b))) := rfl
theorem q_pow : oPow (.int a) (.int b) P = ((Sz a ∧ 0 ≤ b ∧ b ≤ 10000) ∧ P (.int (a ^ b.toNat))) := rfl
theorem q_neg : oNeg (.int a) P = P (.int (-a)) := rfl
theorem q_lt : oLt (.int a) (.int b) P = P (.bool (decide (a < b))) := rfl
theorem q_le : oLe (.int a) (.int b) P = P (.bool (decide (a ≤ b))) := rfl
theorem q_gt : oGt (.int a) (.int b) P = P (.bool (decide (b < a))) := rfl
theorem q_ge : oGe (.int a) (.int b) P = P (.bool (decide (b ≤ a))) := rfl
theorem q_oI {f : Int → Int → PyData} : oI f (.int a) (.int b) P = P (f a b) := rfl
theorem shaped_int : SeqAt.shaped (.int a) = true := by unfold SeqAt.shaped; rfl
theorem q_eq : oEq (.int a) (.int b) P = P (.bool (decide (a = b))) := by
  show ((SeqAt.shaped (.int a) = true ∧ SeqAt.shaped (.int b) = true) ∧ P (.bool (eqD (.int a) (.int b)))) = _
  rw [eqD_int]
  simp only [shaped_int, and_self, true_and]
theorem q_ne : oNe (.int a) (.int b) P = P (.bool (!decide (a = b))) := by
  show ((SeqAt.shaped (.int a) = true ∧ SeqAt.shaped (.int b) = true) ∧ P (.bool (!eqD (.int a) (.int b)))) = _
  rw [eqD_int]
  simp only [shaped_int, and_self, true_and]
theorem shaped_bool {t : Bool} : SeqAt.shaped (.bool t) = true := by unfold SeqAt.shaped; rfl
theorem eqD_bool {t u : Bool} : eqD (.bool t) (.bool u) = decide (t = u) := by
  rw [eqD_eq]
  cases t <;> cases u <;> simp [PyData.eqv]
theorem q_eqB {t u : Bool} : oEq (.bool t) (.bool u) P = P (.bool (decide (t = u))) := by
  show ((SeqAt.shaped (.bool t) = true ∧ SeqAt.shaped (.bool u) = true) ∧ P (.bool (eqD (.bool t) (.bool u)))) = _
  rw [eqD_bool]
  simp only [shaped_bool, and_self, true_and]
theorem q_neB {t u : Bool} : oNe (.bool t) (.bool u) P = P (.bool (!decide (t = u))) := by
  show ((SeqAt.shaped (.bool t) = true ∧ SeqAt.shaped (.bool u) = true) ∧ P (.bool (!eqD (.bool t) (.bool u)))) = _
  rw [eqD_bool]
  simp only [shaped_bool, and_self, true_and]
theorem q_eqS {i j : Str} : oEq (.str i) (.str j) P = P (.bool (decide (i = j))) := rfl
theorem q_neS {i j : Str} : oNe (.str i) (.str j) P = P (.bool (!decide (i = j))) := rfl
theorem q_isN : oIsN .none P = P (.bool true) := rfl
theorem q_isNi : oIsN (.int a) P = P (.bool false) := rfl
theorem q_isNt : oIsN (.tuple xs) P = P (.bool false) := rfl
theorem q_isNs {i : Str} : oIsN (.str i) P = P (.bool false) := rfl
theorem q_notN : oNotN .none P = P (.bool false) := rfl
theorem q_notNi : oNotN (.int a) P = P (.bool true) := rfl
theorem q_notNt : oNotN (.tuple xs) P = P (.bool true) := rfl
theorem q_ix : oIx (.tuple xs) (.int a) P = pick xs a P := rfl
theorem q_ixL : oIx (.list xs) (.int a) P = pick xs a P := rfl
theorem q_ixQ : ixQ xs (.int a) P = pick xs a P := rfl
theorem q_len : nLen [.list xs] P = P (.int (xs.length : Nat)) := rfl
theorem q_lenT : nLen [.tuple xs] P = P (.int (xs.length : Nat)) := rfl
theorem q_lenS {i : Str} : nLen [.str i] P = (i.length ≤ 100000 ∧ P (.int (i.length : Nat))) := rfl
theorem q_abs : nAbs [.int a] P = P (.int (if a < 0 then -a else a)) := rfl
theorem q_min : nMin2 [.int a, .int b] P = P (.int (if b < a then b else a)) := rfl
theorem q_max : nMax2 [.int a, .int b] P = P (.int (if b > a then b else a)) := rfl
theorem q_tupleOf : nTuple [.list xs] P = P (.tuple xs) := rfl
theorem q_tupleOfT : nTuple [.tuple xs] P = P (.tuple xs) := rfl
theorem q_int : nInt [.int a] P = P (.int a) := rfl
theorem q_intB {t : Bool} : nInt [.bool t] P = P (.int (if t then 1 else 0)) := rfl
theorem q_list {P : List PyData → Prop} : nList [.list xs] P = P xs := rfl
theorem q_listT {P : List PyData → Prop} : nList [.tuple xs] P = P xs := rfl
theorem q_tup {K : List PyData → Prop} : tupQ (.tuple xs) K = K xs := rfl
theorem q_cons {K : PyData → List PyData → Prop} : consQ (x :: xs) K = K x xs := rfl
theorem q_nil {p : Prop} : nilQ [] p = p := rfl
theorem q_so {K : Option Int → Prop} : soQ (.int a) K = K (some a) := rfl
theorem q_lst {K : List PyData → Prop} : lstQ (.list xs) K = K xs := rfl
theorem q_items {K : List PyData → Prop} : itemsQ (.list xs) K = K xs := At.eq
theorem q_itemsT {K : List PyData → Prop} : itemsQ (.tuple xs) K = K xs := At.eq
theorem q_slT {lo hi : Option Int} : oSl (.tuple xs) lo hi P = P (.tuple (DL.cutD xs lo hi)) := rfl
theorem q_slL {lo hi : Option Int} : oSl (.list xs) lo hi P = P (.list (DL.cutD xs lo hi)) := rfl
theorem q_rev : oRev (.list xs) P = P (.list xs.reverse) := rfl
theorem q_zip {K : List PyData → Prop} : zipQ [.list xs, .list ys] K = K (zipD xs ys) := At.eq
theorem q_zipT {K : List PyData → Prop} : zipQ [.tuple xs, .tuple ys] K = K (zipD xs ys) := At.eq
theorem q_rng1 {K : List PyData → Prop} : rng1 [.int a] K = ((-1000000 ≤ a ∧ a ≤ 1000000) ∧ K (rangeD 0 a.toNat)) := by
  show (_ ∧ At _ _) = _
  rw [At.eq]
theorem q_rng2 {K : List PyData → Prop} : rng2 [.int a, .int b] K = ((-1000000 ≤ a ∧ a ≤ 1000000 ∧ -1000000 ≤ b ∧ b ≤ 1000000) ∧ K (rangeD a (b - a).toNat)) := by
  show (_ ∧ At _ _) = _
  rw [At.eq]
theorem q_all : nAll [.list xs] P = (match boolsD xs with | some bs => P (.bool (bs.all id)) | none => False) := rfl
theorem q_any : nAny [.list xs] P = (match boolsD xs with | some bs => P (.bool (bs.any id)) | none => False) := rfl
theorem q_sum : nSum [.list xs] P = (match intsD xs with | some bs => P (.int bs.sum) | none => False) := rfl
theorem q_sumT : nSum [.tuple xs] P = (match intsD xs with | some bs => P (.int bs.sum) | none => False) := rfl
theorem q_ap {K : List PyData → Prop} : apQ xs x K = (xs.length < 100000 ∧ K (xs ++ [x])) := rfl
theorem bools_map (ds : List PyData) (f : PyData → Bool) : boolsD (ds.map fun d => .bool (f d)) = some (ds.map f) := by
  induction ds with
  | nil => rfl
  | cons d ds ih => simp [boolsD, ih]
theorem ints_map (ns : List Int) : intsD (ns.map .int) = some ns := by
  induction ns with
  | nil => rfl
  | cons d ds ih => simp [intsD, ih]
theorem q_sumI {ns : List Int} : nSum [.list (ns.map .int)] P = P (.int ns.sum) := by rw [q_sum, ints_map]
theorem q_sumTI {ns : List Int} : nSum [.tuple (ns.map .int)] P = P (.int ns.sum) := by rw [q_sumT, ints_map]
theorem q_allB {ds : List PyData} {f : PyData → Bool} : nAll [.list (ds.map fun d => .bool (f d))] P = P (.bool (ds.all f)) := by
  rw [q_all, bools_map]
  simp only [List.all_map]
  rfl
theorem q_anyB {ds : List PyData} {f : PyData → Bool} : nAny [.list (ds.map fun d => .bool (f d))] P = P (.bool (ds.any f)) := by
  rw [q_any, bools_map]
  simp only [List.any_map]
  rfl
section
variable {S : Prop} {t : Bool} {u : (Bool → Prop) → Prop} {v : (PyData → Prop) → Prop} {K : Bool → Prop} {L : PyData → Prop}
theorem q_same {I S : Type} {i : I} {N : S → Prop} {s : S} : same i N i s = N s := propext ⟨fun h => h.2, fun h => ⟨rfl, h⟩⟩
theorem q_jn {α : Type} {f : α → Prop} {k : α} : jn f k = f k := rfl
theorem q_tAnd_k {b c : Bool} {K : Bool → Prop} : tAnd b (fun k => k c) K = K (b && c) := by cases b <;> rfl
theorem q_tOr_k {b c : Bool} {K : Bool → Prop} : tOr b (fun k => k c) K = K (b || c) := by cases b <;> rfl
theorem q_vAnd_k {b c : Bool} : vAnd b (fun k => k (.bool c)) L = L (.bool (b && c)) := by cases b <;> rfl
theorem q_vOr_k {b c : Bool} : vOr b (fun k => k (.bool c)) L = L (.bool (b || c)) := by cases b <;> rfl
theorem q_tAnd_s {b c : Bool} {K : Bool → Prop} {S : Prop} : tAnd b (fun k => S ∧ k c) K = ((b = true → S) ∧ K (b && c)) := by
  cases b
  · simp only [Bool.false_eq_true, false_imp_iff, true_and]; rfl
  · simp only [true_imp_iff, Bool.true_and]; rfl
theorem q_tOr_s {b c : Bool} {K : Bool → Prop} {S : Prop} : tOr b (fun k => S ∧ k c) K = ((b = false → S) ∧ K (b || c)) := by
  cases b
  · simp only [true_imp_iff, Bool.false_or]; rfl
  · simp only [Bool.true_eq_false, false_imp_iff, true_and]; rfl
theorem q_vAnd_s {b c : Bool} {S : Prop} : vAnd b (fun k => S ∧ k (.bool c)) L = ((b = true → S) ∧ L (.bool (b && c))) := by
  cases b
  · simp only [Bool.false_eq_true, false_imp_iff, true_and]; rfl
  · simp only [true_imp_iff, Bool.true_and]; rfl
theorem q_vOr_s {b c : Bool} {S : Prop} : vOr b (fun k => S ∧ k (.bool c)) L = ((b = false → S) ∧ L (.bool (b || c))) := by
  cases b
  · simp only [true_imp_iff, Bool.false_or]; rfl
  · simp only [Bool.true_eq_false, false_imp_iff, true_and]; rfl
theorem q_vIf_k {b : Bool} {x y : PyData} : vIf b (fun k => k x) (fun k => k y) L = L (if b then x else y) := by cases b <;> rfl
theorem q_tAnd_t {K : Bool → Prop} : tAnd true u K = u K := rfl
theorem q_tAnd_f {K : Bool → Prop} : tAnd false u K = K false := rfl
theorem q_tOr_t {K : Bool → Prop} : tOr true u K = K true := rfl
theorem q_tOr_f {K : Bool → Prop} : tOr false u K = u K := rfl
theorem q_vAnd_t : vAnd true v L = v L := rfl
theorem q_vAnd_f : vAnd false v L = L (.bool false) := rfl
theorem q_vOr_t : vOr true v L = L (.bool true) := rfl
theorem q_vOr_f : vOr false v L = v L := rfl
theorem q_vIf_t {v' : (PyData → Prop) → Prop} : vIf true v v' L = v L := rfl
theorem q_vIf_f {v' : (PyData → Prop) → Prop} : vIf false v v' L = v' L := rfl
theorem bIf_of {b : Bool} {p q : Prop} (h1 : b = true → p) (h2 : b = false → q) : bIf b p q := by
  cases b
  · exact h2 rfl
  · exact h1 rfl
theorem bIf_d {c : Prop} [Decidable c] {p q : Prop} (h1 : c → p) (h2 : ¬ c → q) : bIf (decide c) p q := by
  by_cases h : c
  · rw [decide_eq_true h]; exact h1 h
  · rw [decide_eq_false h]; exact h2 h
end
theorem pick_lit {xs : List PyData} (n : Nat) {d : PyData} (e : xs[n]? = some d) : pick xs (n : Int) P = P d := pick_eq (by
  unfold atI
  rw [ixN_in (by omega) (by have := (List.getElem?_eq_some_iff.mp e).1; omega)]
  exact e)
theorem at0 {a : PyData} {l : List PyData} : pick (a :: l) 0 P = P a := pick_lit 0 rfl
theorem at1 {a b : PyData} {l : List PyData} : pick (a :: b :: l) 1 P = P b := pick_lit 1 rfl
theorem at2 {a b c : PyData} {l : List PyData} : pick (a :: b :: c :: l) 2 P = P c := pick_lit 2 rfl
theorem at3 {a b c d : PyData} {l : List PyData} : pick (a :: b :: c :: d :: l) 3 P = P d := pick_lit 3 rfl
theorem at4 {a b c d e : PyData} {l : List PyData} : pick (a :: b :: c :: d :: e :: l) 4 P = P e := pick_lit 4 rfl
theorem at5 {a b c d e f : PyData} {l : List PyData} : pick (a :: b :: c :: d :: e :: f :: l) 5 P = P f := pick_lit 5 rfl
theorem at6 {a b c d e f g : PyData} {l : List PyData} : pick (a :: b :: c :: d :: e :: f :: g :: l) 6 P = P g := pick_lit 6 rfl
theorem atLast {xs : List PyData} {d : PyData} : pick (xs ++ [d]) (-1) P = P d := pick_eq (by
  unfold atI ixN
  rw [if_neg (by decide), if_pos (by simp; omega)]
  show (xs ++ [d])[((-1 : Int) + ((xs ++ [d]).length : Nat)).toNat]? = some d
  rw [show ((-1 : Int) + ((xs ++ [d]).length : Nat)).toNat = xs.length by simp; omega]
  simp)
/-- any item -/
theorem pick_mem {xs : List PyData} {k : Int} (h0 : 0 ≤ k) (h1 : k < xs.length) (h : ∀ d ∈ xs, P d) : pick xs k P := at_of h0 h1 h
theorem st0 {x a : PyData} {r : List PyData} {K : List PyData → Prop} : stQ (a :: r) (.int 0) x K = K (x :: r) := by
  show (match ixN (a :: r).length 0 with | some j => K ((a :: r).set j x) | none => False) = _
  rw [ixN_in (by decide) (by simp)]
  rfl
theorem st1 {x a b : PyData} {r : List PyData} {K : List PyData → Prop} : stQ (a :: b :: r) (.int 1) x K = K (a :: x :: r) := by
  show (match ixN (a :: b :: r).length 1 with | some j => K ((a :: b :: r).set j x) | none => False) = _
  rw [ixN_in (by decide) (by simp; omega)]
  rfl
theorem st2 {x a b c : PyData} {r : List PyData} {K : List PyData → Prop} : stQ (a :: b :: c :: r) (.int 2) x K = K (a :: b :: x :: r) := by
  show (match ixN (a :: b :: c :: r).length 2 with | some j => K ((a :: b :: c :: r).set j x) | none => False) = _
  rw [ixN_in (by decide) (by simp; omega)]
  rfl
theorem st3 {x a b c d : PyData} {r : List PyData} {K : List PyData → Prop} : stQ (a :: b :: c :: d :: r) (.int 3) x K = K (a :: b :: c :: x :: r) := by
  show (match ixN (a :: b :: c :: d :: r).length 3 with | some j => K ((a :: b :: c :: d :: r).set j x) | none => False) = _
  rw [ixN_in (by decide) (by simp; omega)]
  rfl
theorem st4 {x a b c d e : PyData} {r : List PyData} {K : List PyData → Prop} : stQ (a :: b :: c :: d :: e :: r) (.int 4) x K = K (a :: b :: c :: d :: x :: r) := by
  show (match ixN (a :: b :: c :: d :: e :: r).length 4 with | some j => K ((a :: b :: c :: d :: e :: r).set j x) | none => False) = _
  rw [ixN_in (by decide) (by simp; omega)]
  rfl
theorem st_in {x : PyData} {k : Int} {K : List PyData → Prop} (h0 : 0 ≤ k) (h1 : k < xs.length) (h : K (xs.set k.toNat x)) : stQ xs (.int k) x K := by
  show (match ixN xs.length k with | some j => K (xs.set j x) | none => False)
  rw [ixN_in h0 h1]
  exact h
end
theorem isi_non_int : isiB .none "int" = false := rfl
theorem isi_non_bool : isiB .none "bool" = false := rfl
theorem isi_non_str : isiB .none "str" = false := rfl
theorem isi_non_list : isiB .none "list" = false := rfl
theorem isi_non_tuple : isiB .none "tuple" = false := rfl
theorem isi_non_dict : isiB .none "dict" = false := rfl
theorem isi_bl_int {t : Bool} : isiB (.bool t) "int" = true := rfl
theorem isi_bl_bool {t : Bool} : isiB (.bool t) "bool" = true := rfl
theorem isi_bl_str {t : Bool} : isiB (.bool t) "str" = false := rfl
theorem isi_bl_list {t : Bool} : isiB (.bool t) "list" = false := rfl
theorem isi_bl_tuple {t : Bool} : isiB (.bool t) "tuple" = false := rfl
theorem isi_bl_dict {t : Bool} : isiB (.bool t) "dict" = false := rfl
theorem isi_int_int {a : Int} : isiB (.int a) "int" = true := rfl
theorem isi_int_bool {a : Int} : isiB (.int a) "bool" = false := rfl
theorem isi_int_str {a : Int} : isiB (.int a) "str" = false := rfl
theorem isi_int_list {a : Int} : isiB (.int a) "list" = false := rfl
theorem isi_int_tuple {a : Int} : isiB (.int a) "tuple" = false := rfl
theorem isi_int_dict {a : Int} : isiB (.int a) "dict" = false := rfl
theorem isi_str_int {x : Str} : isiB (.str x) "int" = false := rfl
theorem isi_str_bool {x : Str} : isiB (.str x) "bool" = false := rfl
theorem isi_str_str {x : Str} : isiB (.str x) "str" = true := rfl
theorem isi_str_list {x : Str} : isiB (.str x) "list" = false := rfl
theorem isi_str_tuple {x : Str} : isiB (.str x) "tuple" = false := rfl
theorem isi_str_dict {x : Str} : isiB (.str x) "dict" = false := rfl
theorem isi_lst_int {xs : List PyData} : isiB (.list xs) "int" = false := rfl
theorem isi_lst_bool {xs : List PyData} : isiB (.list xs) "bool" = false := rfl
theorem isi_lst_str {xs : List PyData} : isiB (.list xs) "str" = false := rfl
theorem isi_lst_list {xs : List PyData} : isiB (.list xs) "list" = true := rfl
theorem isi_lst_tuple {xs : List PyData} : isiB (.list xs) "tuple" = false := rfl
theorem isi_lst_dict {xs : List PyData} : isiB (.list xs) "dict" = false := rfl
theorem isi_tup_int {xs : List PyData} : isiB (.tuple xs) "int" = false := rfl
theorem isi_tup_bool {xs : List PyData} : isiB (.tuple xs) "bool" = false := rfl
theorem isi_tup_str {xs : List PyData} : isiB (.tuple xs) "str" = false := rfl
theorem isi_tup_list {xs : List PyData} : isiB (.tuple xs) "list" = false := rfl
theorem isi_tup_tuple {xs : List PyData} : isiB (.tuple xs) "tuple" = true := rfl
theorem isi_tup_dict {xs : List PyData} : isiB (.tuple xs) "dict" = false := rfl
theorem isi_dct_int : isiB (.dict []) "int" = false := rfl
theorem isi_dct_bool : isiB (.dict []) "bool" = false := rfl
theorem isi_dct_str : isiB (.dict []) "str" = false := rfl
theorem isi_dct_list : isiB (.dict []) "list" = false := rfl
theorem isi_dct_tuple : isiB (.dict []) "tuple" = false := rfl
theorem isi_dct_dict : isiB (.dict []) "dict" = true := rfl
end DL

namespace DL
variable {T : List (PySem.Addr × PySem.Str)} {Z : Zx T}
open PySem PySem.Spec PyProof.Rows L2
open Evl (Ex)
section
variable {X : Cx} {a b e : Expr} {es : List Expr} {we wa wb : DE} {was : DA} {pos p p1 p2 p3 p0 : Pos} {K : PySem.W.Frag} {m : Nat}
def rEmp (K : PySem.W.Frag) (n : Bool) : R2 := fun x y H Q => ∃ a b xs, x = .ref a ∧ y = .ref b ∧ ((SqL K H a xs ∧ SqL K H b []) ∨ (SqT K H a xs ∧ SqT K H b [])) ∧ Q (.bl (xs.isEmpty != n)) H
theorem op_empE (hu : X.A.units + 64 < cLine) : OpR X (compareOp .Eq) (rEmp X.K false) := by
  intro pins s σ H x y v u Q I rx ry h
  obtain ⟨a, b, xs, rfl, rfl, h, q⟩ := h
  cases rx
  cases ry
  have hu2 : X.A.units < cLine := by omega
  rcases h with ⟨h1, h2⟩ | ⟨h1, h2⟩
  · obtain ⟨its, r1, t1, _⟩ := I.list h1
    obtain ⟨its2, r2, t2, _⟩ := I.list h2
    cases r2
    cases r1 with
    | nil => exact SeqAt.RcAt.lists (e := fun _ => true) t1.isList t2.isList rfl hu2 (fun j h1 => absurd h1 (by simp)) _ _ _ _ ⟨.bl true, H, I, rfl, q⟩
    | cons _ _ => exact SeqAt.RcAt.lists_lengths t1.isList t2.isList (by simp) hu2 _ _ _ _ ⟨.bl false, H, I, rfl, q⟩
  · obtain ⟨its, r1, t1, _⟩ := I.tuple h1
    obtain ⟨its2, r2, t2, _⟩ := I.tuple h2
    cases r2
    refine SeqAt.RcAt.tuples (e := fun _ => true) t1 t2 hu2 (fun j h1 h2 => absurd h2 (by simp)) _ _ _ _ ?_
    cases r1 with
    | nil => exact ⟨.bl true, H, I, rfl, q⟩
    | cons _ _ => exact ⟨.bl false, H, I, rfl, q⟩
theorem op_empN (hu : X.A.units + 64 < cLine) : OpR X (compareOp .NotEq) (rEmp X.K true) := by
  intro pins s σ H x y v u Q I rx ry h
  obtain ⟨a, b, xs, rfl, rfl, h, q⟩ := h
  cases rx
  cases ry
  have hu2 : X.A.units < cLine := by omega
  rcases h with ⟨h1, h2⟩ | ⟨h1, h2⟩
  · obtain ⟨its, r1, t1, _⟩ := I.list h1
    obtain ⟨its2, r2, t2, _⟩ := I.list h2
    cases r2
    cases r1 with
    | nil => exact SeqAt.RcNeAt.lists (e := fun _ => true) t1.isList t2.isList rfl hu2 (fun j h1 => absurd h1 (by simp)) _ _ _ _ ⟨.bl false, H, I, rfl, q⟩
    | cons _ _ => exact SeqAt.RcNeAt.lists_lengths t1.isList t2.isList (by simp) hu2 _ _ _ _ ⟨.bl true, H, I, rfl, q⟩
  · obtain ⟨its, r1, t1, _⟩ := I.tuple h1
    obtain ⟨its2, r2, t2, _⟩ := I.tuple h2
    cases r2
    refine SeqAt.RcNeAt.tuples (e := fun _ => true) t1 t2 hu2 (fun j h1 h2 => absurd h2 (by simp)) _ _ _ _ ?_
    cases r1 with
    | nil => exact ⟨.bl false, H, I, rfl, q⟩
    | cons _ _ => exact ⟨.bl true, H, I, rfl, q⟩
/-- x == [] of a list, x == () of a tuple -/
def oEmp (n : Bool) (x y : PyData) (P : PyData → Prop) : Prop := match x, y with
  | .list xs, .list [] => P (.bool (xs.isEmpty != n))
  | .tuple xs, .tuple [] => P (.bool (xs.isEmpty != n))
  | _, _ => False
theorem drs_empty {F : Hp} {vs : List V} {ds : List PyData} (r : DRs K F vs ds) : vs.isEmpty = ds.isEmpty := by cases r <;> rfl
theorem opd_emp {n : Bool} : OpD K (rEmp K n) (oEmp n) := by
  intro _ _ g F env σ H vx vy dx dy P Q k rx ry p q
  unfold oEmp at p
  split at p
  · obtain ⟨a, us, rfl, h1, h2⟩ := rx.inv_lst
    obtain ⟨b, ws, rfl, h3, h4⟩ := ry.inv_lst
    cases h4
    exact ⟨a, b, us, rfl, rfl, .inl ⟨(h1.mono k.fh).sq, (h3.mono k.fh).sq⟩, q _ _ F H (by rw [drs_empty h2]; exact p) (Ex.refl F) k (.bl _)⟩
  · obtain ⟨a, us, rfl, h1, h2⟩ := rx.inv_tup
    obtain ⟨b, ws, rfl, h3, h4⟩ := ry.inv_tup
    cases h4
    exact ⟨a, b, us, rfl, rfl, .inr ⟨Evl.ex_t k.fh h1, Evl.ex_t k.fh h3⟩, q _ _ F H (by rw [drs_empty h2]; exact p) (Ex.refl F) k (.bl _)⟩
  · exact p.elim
theorem q_empL {n : Bool} {xs : List PyData} {P : PyData → Prop} : oEmp n (.list xs) (.list []) P = P (.bool (xs.isEmpty != n)) := rfl
theorem q_empT {n : Bool} {xs : List PyData} {P : PyData → Prop} : oEmp n (.tuple xs) (.tuple []) P = P (.bool (xs.isEmpty != n)) := rfl
/-- x == [] of a name's own cell -/
abbrev dEmpC (n : Bool) (i : Nat) (env : List SD) (P : PyData → List SD → Prop) : Prop := match env[i]? with
  | some (.cel _ xs) => P (.bool (xs.isEmpty != n)) env
  | _ => False
theorem lift_empC {n : Bool} {i : Nat} {σ : L2.St} {H : Hp} {Q : VK} (h : liftE K Z (dEmpC n i) σ H Q) : tOp (rEmp K n) (tVar i) (tLst tNil) σ H Q := by
  obtain ⟨g, F, env, P, k, w, q⟩ := h
  unfold dEmpC at w
  split at w
  · rename_i p xs e
    obtain ⟨a0, vs, h1, h2, h3, h4, h5⟩ := k.cel i p xs e
    refine ⟨_, h1, Nat.zero_le _, fun p hp => ?_⟩
    have ne : a0 ≠ p := ne_of_none h3 hp
    refine ⟨a0, p, vs, rfl, rfl, .inl ⟨SqL.of (by rw [upd_ne ne]; exact h3), SqL.of upd_same⟩, ?_⟩
    rw [drs_empty h4]
    exact q _ env _ _ _ w (Ex.refl F) (k.extra hp) (.bl _)
  · exact w.elim
variable {x : Str}
theorem tempCn (i : Nat) {pl : Pos} (hu : X.A.units + 64 < cLine) (hN : X.N[i]? = some x := by rfl) (hv : Vis X.env.scope x := by first | exact Or.inl rfl | exact Or.inr (Or.inl rfl) | exact Or.inr (Or.inr rfl)) (hd : (x == ("__debug__" : Str)) = false := by decide)
    (hcd : (x == ("__classdict__" : Str)) = false := by decide) : PT X (.Compare (.Name x p0) [.NotEq] [.List [] pl] pos) (liftT X.K Z (dTest (dEmpC true i))) := PT.of (pt_cmpR (op_empN hu) (pe_var hN hv hd hcd) (pe_lst pa_nil) (nomark _)) fun _ _ _ h => lift_test (fun _ _ _ h => lift_empC h) h
def oIsB (n t : Bool) (x : PyData) (P : PyData → Prop) : Prop := match x with
  | .bool b => P (.bool (decide (b = t) != n))
  | _ => False
theorem q_isB {n t b : Bool} {P : PyData → Prop} : oIsB n t (.bool b) P = P (.bool (decide (b = t) != n)) := rfl
/-- a new thing, its object known -/
theorem PE.known {t : TE} (h : PE X e t) : PE X e (fun σ H Q => t σ H fun v H1 => ∃ a u, v = .ref a ∧ H1 a = some u ∧ Mut (some u) ∧ ∀ od, Q v (upd H1 a (.frz od u))) := ⟨fun pins s σ H Q I hw => by
  refine thn (h.run pins s σ H _ I hw) fun v s1 ⟨x, H1, I1, r, a, u, ea, eu, mu, q⟩ => ?_
  obtain ⟨od, I2⟩ := I1.lock eu mu
  exact ⟨x, _, I2, r, q od⟩⟩
theorem ddict0 : PE X (.Dict [] [] pos) (liftE X.K Z (dC (.dict []))) := PE.of (PE.known pe_dnewK) fun σ H Q ⟨g, F, env, P, k, w, q⟩ => fun p hp => ⟨p, .dK [], rfl, upd_same, True.intro, fun od => by
  rw [upd_upd]
  exact q _ env _ (upd F p (.frz od (.dK []))) _ w (Ex.new (fnone k.fh hp)) (k.alloc hp) (.dct upd_same .nil)⟩
end

section
variable {prog : Program} {w : World} {A : Around} {E : Value → Shared → Prop} {s : Shared}
end
end DL

namespace DL
variable {T : List (PySem.Addr × PySem.Str)} {Z : Zx T}
open PySem PySem.Spec PyProof.Rows L2
open Evl (Ex)
section
variable {X : Cx} {a b e : Expr} {es : List Expr} {we wa wb : DE} {was : DA} {pos p p1 p2 p3 p0 : Pos} {K : PySem.W.Frag} {m : Nat}
def oRevA (x : PyData) (P : PyData → Prop) : Prop := match x with
  | .list ds => P (.list ds.reverse)
  | .tuple ds => P (.tuple ds.reverse)
  | _ => False
theorem q_revL {ds : List PyData} {P : PyData → Prop} : oRevA (.list ds) P = P (.list ds.reverse) := rfl
theorem q_revT {ds : List PyData} {P : PyData → Prop} : oRevA (.tuple ds) P = P (.tuple ds.reverse) := rfl
end
end DL

namespace DL
variable {T : List (PySem.Addr × PySem.Str)} {Z : Zx T}
open PySem PySem.Spec PyProof.Rows L2
open Evl (Ex)
section
variable {X : Cx} {a b e : Expr} {es : List Expr} {we wa wb : DE} {was : DA} {pos p p1 p2 p3 p0 : Pos} {K : PySem.W.Frag} {m : Nat}
def rGetL (K : PySem.W.Frag) : V → V → Hp → VK → Prop := fun x y H Q => ∃ p xs i v, x = .ref p ∧ y = .int i ∧ SqL K H p xs ∧ atI xs i = some v ∧ Q v H
theorem get_list : PGet X (rGetL X.K) := by
  intro pins s σ H o i ov iv Q I ro ri h
  obtain ⟨p, xs, i, z, rfl, rfl, hq, he, q⟩ := h
  cases ro
  obtain ⟨t, rfl⟩ := ri
  obtain ⟨its, r, pl, hz⟩ := I.list hq
  obtain ⟨j, h1, h2, h3, h4, h5⟩ := atI_get he
  obtain ⟨w, ew, rw'⟩ := r.get h2
  have hl := r.length
  have hn := line63
  have fin : EP X pins σ Q w s := ⟨z, H, I, rw', q⟩
  by_cases h0 : 0 ≤ i
  · have hj : i.toNat = j := by
      rw [seqIndex_of h0 h5] at h1
      exact Option.some.inj h1
    exact wpAny_getItem_list pl.isList h0 (by omega) (by rw [hj]; simpa using ew) fin
  · have hj : (i + (its.toArray.size : Int)).toNat = j := by
      rw [seqIndex_neg (by omega) h4] at h1
      rw [List.size_toArray, ← hl]
      exact Option.some.inj h1
    exact wpAny_getItem_list_neg pl.isList (by omega) (by rw [List.size_toArray] <;> omega) (by omega) (by rw [hj]; simpa using ew) fin
/-- x[i] op= e of a name's own cell, numbers -/
abbrev dAugC (i : Nat) (f : Int → Int → Int) (wi we : DE) (E : DEnds) (env : List SD) : Prop := match env[i]? with
  | some (.cel _ _) => wi env fun y env1 => match env1[i]? with
    | some (.cel _ xs) => ixQ xs y fun x => we env1 fun d env2 => oI (fun n m => .int (f n m)) x d fun z => match env2[i]? with
      | some (.cel p xs2) => stQ xs2 y z fun xs' => E.nx (env2.set i (.cel p xs'))
      | _ => False
    | _ => False
  | _ => False
theorem saugC (i : Nat) {x : Str} {tpos : Pos} {op : Operator} {f : Int → Int → Int} (ho : PIp X op (ipI f)) (hi : PE X b (liftE X.K Z wb)) (he : PE X e (liftE X.K Z we)) (hN : X.N[i]? = some x := by rfl) (hv : Vis X.env.scope x := by first | exact Or.inl rfl | exact Or.inr (Or.inl rfl) | exact Or.inr (Or.inr rfl)) (hd : (x == ("__debug__" : Str)) = false := by decide)
    (hcd : (x == ("__classdict__" : Str)) = false := by decide)
    (ha : ∀ ov iv new, augStore b ov iv new = (do holding [new, ov, iv] (setItem ov iv new); release [new, ov, iv] []; pure .next) := by intros; rfl) : PS X (.AugAssign (.Subscript (.Name x p0) b tpos) op e pos) (liftS X.K Z m (dAugC i f wb we)) :=
  PS.of (ps_augS (pe_var hN hv hd hcd) hi get_list he ho set_list ha) fun D σ H ⟨g, F, env, P, k, w, q⟩ => by
    unfold dAugC at w
    split at w
    · rename_i p' xs' ex
      obtain ⟨a0, us0, b1, _⟩ := k.cel i p' xs' ex
      refine ⟨_, b1, g, F, env, _, k, w, fun y env1 v F1 H1 p1 e1 k1 r1 => ?_⟩
      split at p1
      · rename_i q1 xs ex1
        obtain ⟨n, rfl⟩ : ∃ n, y = .int n := by
          cases y <;> first | exact ⟨_, rfl⟩ | exact p1.elim
        cases r1.inv_int
        obtain ⟨d', ed, p1⟩ := pick_inv (show pick xs n _ from p1)
        obtain ⟨a1, ws, z1, z2, z3, z4, z5⟩ := k1.cel i _ _ ex1
        rw [b1] at z1
        cases z1
        obtain ⟨u, u1, u2⟩ := atI_rel z4 ed
        refine ⟨a0, ws, n, u, rfl, rfl, SqL.of z3, u1, g, F1, env1, _, k1, p1, fun d env2 v2 F2 H2 p2 e2 k2 r2 => ?_⟩
        unfold oI at p2
        split at p2
        · rename_i nx' dm
          cases u2.inv_int
          cases r2.inv_int
          refine ⟨_, _, rfl, rfl, ?_⟩
          split at p2
          · rename_i q3 xs2 ex2
            unfold stQ at p2
            dsimp only at p2
            split at p2
            · rename_i j ej
              obtain ⟨a3, us3, c1, c2, c3, c4, _⟩ := k2.cel i q3 xs2 ex2
              rw [b1] at c1
              cases c1
              exact ⟨a0, us3, n, j, rfl, rfl, c3, by rw [c4.length]; exact ej, q.nx _ σ F2 _ p2 (e1.trans e2) (k2.write ex2 b1 (c4.set j (.int _)))⟩
            · exact p2.elim
          · exact p2.elim
        · exact p2.elim
      · exact p1.elim
    · exact w.elim
/-- [e] * n, a new cell -/
def repQ (x y : PyData) (K : List PyData → Prop) : Prop := match y with
  | .int k => (-1000000 ≤ k ∧ k ≤ 100000) ∧ K (List.replicate k.toNat x)
  | _ => False
theorem q_rep {x : PyData} {k : Int} {K : List PyData → Prop} : repQ x (.int k) K = ((-1000000 ≤ k ∧ k ≤ 100000) ∧ K (List.replicate k.toNat x)) := rfl
theorem DRs.rep {F : Hp} {v : V} {d : PyData} (r : DR K F v d) : ∀ n : Nat, DRs K F (List.replicate n v) (List.replicate n d)
  | 0 => .nil
  | n + 1 => by rw [List.replicate_succ, List.replicate_succ]; exact .cons r (DRs.rep r n)
end
theorem Dn.imp {P : Program} {w : World} {K : PySem.W.Frag} {mg : Str → Option Value} {base : Heap} {x : Str} {k : Nat} {ps : List Str} {S S' : DSp} (D : Dn P w K mg base T x k ps S) (h : ∀ as Q, S' as Q → S as Q) : Dn P w K mg base T x k ps S' :=
  ⟨let ⟨fd, F, b⟩ := D.ex; ⟨fd, F.imp h, b⟩, D.glo, D.kp⟩
theorem FnG.never {P : Program} {w : World} {K : PySem.W.Frag} {mg : Str → Option Value} {base : Heap} {k : Nat} {f : Addr} {fd : FuncData} {ps : List Str} {S : DSp} (h : ∀ as Q, ¬ S as Q) : FnG P w K mg base T k f fd ps S :=
  ⟨fun as Q q => absurd q (h as Q), fun _ _ _ _ _ _ _ _ _ _ _ _ _ ⟨_, as, _, _, q, _⟩ => absurd q (h as _)⟩
end DL

namespace DL
variable {T : List (PySem.Addr × PySem.Str)} {Z : Zx T}
open PySem PySem.Spec PyProof.Rows L2
open Evl (Ex)
section
variable {X : Cx} {a b e : Expr} {wa wb : DE} {pos : Pos} {K : PySem.W.Frag}
abbrev oFd : D2 := oIc (fun _ j => j ≠ 0 ∧ Sz j) fun i j => .int (i.fdiv j)
theorem q_fd {i j : Int} {P : PyData → Prop} : oFd (.int i) (.int j) P = ((j ≠ 0 ∧ Sz j) ∧ P (.int (i.fdiv j))) := rfl
end
end DL

namespace DL
variable {T : List (PySem.Addr × PySem.Str)} {Z : Zx T}
open PySem PySem.Spec PyProof.Rows L2
open Evl (Ex)
section
variable {X : Cx} {a b e : Expr} {es : List Expr} {pos p : Pos} {was : DA} {wa wb we : DE} {K : PySem.W.Frag}
def max3 (i j k : Int) : Int := max (max i j) k
def min3 (i j k : Int) : Int := min (min i j) k
def nMax3 (xs : List PyData) (P : PyData → Prop) : Prop := match xs with
  | [.int i, .int j, .int k] => P (.int (max3 i j k))
  | _ => False
def nMin3 (xs : List PyData) (P : PyData → Prop) : Prop := match xs with
  | [.int i, .int j, .int k] => P (.int (min3 i j k))
  | _ => False
theorem q_max3 {i j k : Int} {P : PyData → Prop} : nMax3 [.int i, .int j, .int k] P = P (.int (max3 i j k)) := rfl
theorem q_min3 {i j k : Int} {P : PyData → Prop} : nMin3 [.int i, .int j, .int k] P = P (.int (min3 i j k)) := rfl
/-- the figures of a whole number -/
@[irreducible] def shInt (i : Int) : Str := toString i
def nStr (xs : List PyData) (P : PyData → Prop) : Prop := match xs with
  | [.int i] => i.natAbs < 10 ^ 250 ∧ P (.str (shInt i))
  | _ => False
theorem q_str {i : Int} {P : PyData → Prop} : nStr [.int i] P = (i.natAbs < 10 ^ 250 ∧ P (.str (shInt i))) := rfl
def catQ (xs : List PyData) (y : PyData) (K : List PyData → Prop) : Prop := match y with
  | .list ys => xs.length + ys.length ≤ 100000 ∧ K (xs ++ ys)
  | _ => False
theorem q_cat {xs ys : List PyData} {K : List PyData → Prop} : catQ xs (.list ys) K = (xs.length + ys.length ≤ 100000 ∧ K (xs ++ ys)) := rfl
theorem catQ_inv {xs : List PyData} {y : PyData} {K : List PyData → Prop} (h : catQ xs y K) : ∃ ys, y = .list ys ∧ xs.length + ys.length ≤ 100000 ∧ K (xs ++ ys) := by
  cases y <;> first | exact ⟨_, rfl, h⟩ | exact h.elim
abbrev dCatN (wa wb : DE) (env : List SD) (P : SD → List SD → Prop) : Prop := wa env fun x env1 => wb env1 fun y env2 => match x with
  | .list xs => catQ xs y fun zs => P (.cel false zs) env2
  | _ => False
/-- a list, as a row of items -/
def catN (x y : PyData) (K : List PyData → Prop) : Prop := match x with
  | .list xs => catQ xs y K
  | _ => False
theorem q_catN {xs ys : List PyData} {K : List PyData → Prop} : catN (.list xs) (.list ys) K = (xs.length + ys.length ≤ 100000 ∧ K (xs ++ ys)) := rfl
theorem dcatN (ha : PE X a (liftE X.K Z wa)) (hb : PE X b (liftE X.K Z wb)) : PE X (.BinOp a .Add b pos) (liftX X.K Z (dCatN wa wb)) :=
  PE.of (pe_op op_catL ha hb) fun σ H Q ⟨g, F, env, P, k, w, q⟩ => ⟨g, F, env, _, k, w, fun x env1 v F1 H1 p1 e1 k1 r1 => ⟨g, F1, env1, _, k1, p1, fun y env2 v2 F2 H2 p2 e2 k2 r2 => by
    split at p2
    · obtain ⟨zs, rfl, hz, p2⟩ := catQ_inv p2
      obtain ⟨a1, us, rfl, y1, y2⟩ := r1.inv_lst
      obtain ⟨b1, ws, rfl, y3, y4⟩ := r2.inv_lst
      refine ⟨a1, b1, us, ws, rfl, rfl, y1.mono (e2.trans k2.fh), y3.mono k2.fh, by rw [y2.length, y4.length]; exact sz2 hz, fun p hp => ?_⟩
      obtain ⟨k3, r3⟩ := k2.newCell hp ((y2.mono e2).append y4)
      exact q _ env2 _ _ _ p2 (e1.trans e2) k3 r3
    · exact p2.elim⟩⟩
def scalQ (d : PyData) (p : Prop) : Prop := match d with
  | .none => p
  | .bool _ => p
  | .int _ => p
  | .str _ => p
  | _ => False
theorem q_scalN {p : Prop} : scalQ .none p = p := rfl
theorem q_scalB {b : Bool} {p : Prop} : scalQ (.bool b) p = p := rfl
theorem q_scalI {i : Int} {p : Prop} : scalQ (.int i) p = p := rfl
theorem q_scalS {x : Str} {p : Prop} : scalQ (.str x) p = p := rfl
theorem scalQ_inv {d : PyData} {p : Prop} (h : scalQ d p) : p ∧ ∀ {F F' : Hp} {v : V}, DR K F v d → DR K F' v d := by
  cases d with
  | none => exact ⟨h, fun r => by cases r; exact .non⟩
  | bool b => exact ⟨h, fun r => by cases r; exact .bl b⟩
  | int i => exact ⟨h, fun r => by cases r; exact .int i⟩
  | str x => exact ⟨h, fun r => by cases r; exact .str x⟩
  | list _ => exact h.elim
  | tuple _ => exact h.elim
  | dict _ => exact h.elim
def frz1 : SD → SD
  | .cel _ xs => .dat (.list xs)
  | .dic _ => .un
  | s => s
def frz (env : List SD) : List SD := env.map frz1
abbrev dBor (w : DE) (env : List SD) (P : PyData → List SD → Prop) : Prop := w (frz env) fun d _ => scalQ d (P d env)
theorem Ok.later {g : Gx Z} {F : Hp} {env : List SD} {σ : L2.St} {H H' : Hp} (k : Ok K g F env σ H) (e : Frm T H (fun _ => True) H') (ef : Ex F H') : Ok K g F env σ H' where
  len := k.len
  fh := ef
  dat := k.dat
  cel := fun i q xs h => by
    obtain ⟨a, vs, h1, h2, h3, h4, h5⟩ := k.cel i q xs h
    exact ⟨a, vs, h1, h2, (e.stay _ _ h3 trivial).lst, h4, h5⟩
  sep := k.sep
  pin := k.pin
  frame := k.frame.trans e fun _ _ _ _ => trivial
  newF := k.newF
  oldF := k.oldF
  prot := fun a u h => by
    obtain ⟨z1, z2, z3⟩ := k.prot a u h
    exact ⟨(e.stay _ _ z1 trivial).same (g.pl a u h), z2, z3⟩
  dic := k.dic.keep (Ex.refl F) (fun _ _ _ z => z) fun a xs h n => ⟨n, (e.stay _ _ h trivial).ext.trans h.symm⟩
theorem Ok.lend {g : Gx Z} {F : Hp} {env : List SD} {σ : L2.St} {H : Hp} (k : Ok K g F env σ H) : ∃ (Z' : Zx T) (g' : Gx Z') (F' : Hp), Ok K g' F' (frz env) σ H ∧ Z'.H0 = H ∧ (∀ i, Z'.A0 i = none) ∧ Ex F F' := by
  classical
  let c : Addr → Prop := fun a => ∃ (i : Nat) (p : Bool) (xs : List PyData), env[i]? = some (.cel p xs) ∧ σ[i]? = some (some (.ref a))
  let F' : Hp := fun a => if c a then H a else F a
  have ex : Ex F F' := fun a o h => by
    show (if c a then H a else F a) = some o
    by_cases z : c a
    · rw [if_pos z]
      exact k.fh a o h
    · rw [if_neg z]
      exact h
  have fh : Ex F' H := fun a o h => by
    have h : (if c a then H a else F a) = some o := h
    by_cases z : c a
    · rw [if_pos z] at h
      exact h
    · rw [if_neg z] at h
      exact k.fh a o h
  have nt : ∀ a ps, F' a ≠ some (.tbl ps) := fun a ps h => by
    have h : (if c a then H a else F a) = some (.tbl ps) := h
    by_cases z : c a
    · rw [if_pos z] at h
      obtain ⟨i, p, xs, e, h1⟩ := z
      obtain ⟨b, vs, b1, _, b3, _⟩ := k.cel i p xs e
      rw [h1] at b1
      cases b1
      rw [b3] at h
      cases h
    · rw [if_neg z] at h
      exact k.oldF.2 a ps h
  refine ⟨⟨F', H, fun _ => none, fun _ => none, Z.P, Z.w, fun _ => none⟩, ⟨fun _ => none, fun _ _ h => h, fun _ _ h => by cases h⟩, F', ⟨?_, fh, fun i d h => ?_, fun i p xs h => ?_, fun i j p q xs ys a h => ?_, fun i a h => ?_, Frm.refl k.frame.tab, fun a o h => .inl h, ⟨Ex.refl _, nt⟩, fun a o h => ?_, DicsOk.none fun i kvs h => ?_⟩, rfl, fun _ => rfl, ex⟩
  · unfold frz
    rw [List.length_map]
    exact k.len
  · unfold frz at h
    rw [List.getElem?_map] at h
    cases e : env[i]? with
    | none => rw [e] at h; cases h
    | some s =>
      rw [e] at h
      cases s with
      | un => cases h
      | dic _ => cases h
      | dat d' =>
        cases h
        obtain ⟨v, h1, h2⟩ := k.dat i _ e
        exact ⟨v, h1, h2.mono ex⟩
      | cel p xs =>
        cases h
        obtain ⟨a, vs, h1, h2, h3, h4, h5⟩ := k.cel i p xs e
        refine ⟨_, h1, .lst (RdL.of (xs := vs) ?_) (h4.mono ex)⟩
        show (if c a then H a else F a) = _
        rw [if_pos ⟨i, p, xs, e, h1⟩]
        exact h3
  · unfold frz at h
    rw [List.getElem?_map] at h
    cases e : env[i]? with
    | none => rw [e] at h; cases h
    | some s => rw [e] at h; cases s <;> cases h
  · unfold frz at h
    rw [List.getElem?_map] at h
    cases e : env[i]? with
    | none => rw [e] at h; cases h
    | some s => rw [e] at h; cases s <;> cases h
  · cases h
  · cases h
  · unfold frz at h
    rw [List.getElem?_map] at h
    cases e : env[i]? with
    | none => rw [e] at h; cases h
    | some s => rw [e] at h; cases s <;> cases h
theorem PE.anyZ {ι : Type} {t : ι → TE} (h : ∀ i, PE X e (t i)) : PE X e (fun σ H Q => ∃ i, t i σ H Q) := ⟨fun pins s σ H Q I ⟨i, w⟩ => (h i).run pins s σ H Q I w⟩
theorem PT.anyZ {ι : Type} {t : ι → TT} (h : ∀ i, PT X e (t i)) : PT X e (fun σ H Q => ∃ i, t i σ H Q) := ⟨fun pins s σ H Q I ⟨i, w⟩ => (h i).run pins s σ H Q I w⟩
theorem dbor {w : DE} (h : ∀ {Z : Zx T}, PE X e (liftE X.K Z w)) : PE X e (liftE X.K Z (dBor w)) := PE.of (PE.anyZ fun Z => h (Z := Z)) fun σ H Q ⟨g, F, env, P, k, w, q⟩ => by
  obtain ⟨Z', g', F', k', e1, e2, ex⟩ := k.lend
  refine ⟨Z', g', F', frz env, _, k', w, fun d env1 v F1 H1 p e3 k1 r1 => ?_⟩
  obtain ⟨p, hr⟩ := scalQ_inv p
  have eh : Frm T H (fun _ => True) H1 := by
    have z := k1.frame
    rw [show g'.H0 = H from e1] at z
    exact z.weak fun a o _ _ i y => by rw [show g'.A0 i = none from e2 i] at y; cases y
  exact q d env v F H1 p (Ex.refl F) (k.later eh ((ex.trans e3).trans k1.fh)) (hr r1)
/-- the tuple at a as it stands at each turn, each item in a new pair -/
def IteT (K : PySem.W.Frag) (a : Addr) : It :=
  ⟨fun i H => ∃ (xs : List V) (x : V), SqT K H a xs ∧ xs[i]? = some x, fun i H v H' => ∃ T x, v = .ref T ∧ H T = none ∧ H' = upd H T (.tup [.int (i : Nat), x]) ∧ ∀ xs, SqT K H a xs → xs[i]? = some x, fun i H => ∃ xs : List V, SqT K H a xs ∧ xs.length ≤ i⟩
theorem turn_enumT {P : Program} {w : World} {K : PySem.W.Frag} {elts : List Expr} {kk : Nat} {tpos : Pos} (a e it : Addr) (hai : a ≠ it) (hae : e ≠ a) :
    Turn P w K (.Tuple elts kk tpos) (IteT K a) [e, it] e (fun i h => (∃ old, IsEnum h e it ((i : Nat) : Int) old) ∧ h.IsTupleIter it a i ∧ e ≠ it) where
  mem := by simp
  obj := fun i h st b hb => by
    obtain ⟨⟨old, he⟩, ⟨o, ho, hc, hd⟩, _⟩ := st
    have e' : b = e ∨ b = it := by simpa using hb
    rcases e' with z | z
    · rw [z]; exact ⟨_, he, fun v q => nomatch q⟩
    · rw [z]; exact ⟨o, ho, fun v q => by rw [hd] at q; cases q⟩
  keep := fun i h h' st k => let ⟨⟨old, he⟩, hi, hne⟩ := st; ⟨⟨old, k e (by simp) _ he⟩, hi.at fun o q => k it (by simp) o q, hne⟩
  item := by
    intro X hP hw hK hc i pins s σ H E I hf st hg
    subst hP hw hK
    obtain ⟨⟨old, he⟩, hit, hne⟩ := st
    obtain ⟨xs, x, hq, hx⟩ := hg
    obtain ⟨its, rv, p, hz⟩ := I.tuple hq
    obtain ⟨u, hu, ru⟩ := rv.get hx
    have hel : e < s.heap.objs.size := Heap.lt_size he
    have hil : it < s.heap.objs.size := by obtain ⟨_, q, _⟩ := hit; exact Heap.lt_size q
    have hii : i < its.toArray.size := by
      rcases Nat.lt_or_ge i its.toArray.size with z | z
      · exact z
      · rw [List.getElem?_eq_none (by simpa using z)] at hu; cases hu
    refine wpAny_pyNext_enum_itemD (Draws.tuple (A := X.A.in1) (show X.A.in1.handled = none from I.ok.hd hc) it a hai its.toArray) he ⟨hit, p⟩ hii hne (by simp [hne, hae]) fun y h' tk hy ho hit' hT hsz hk => ?_
    have hyu : y = u := by
      have : its.toArray[i]? = some u := by simpa using hu
      rw [this] at hy
      exact (Option.some.inj hy).symm
    subst hyu
    refine ⟨_, rfl, wpAny_letOwnedTupleGo_enum (s := { s with heap := h', toks := tk + 1 }) ho fun h'' he' sb => ?_⟩
    have hT2 : h''.get? s.heap.objs.size = some { cls := .type "tuple", data := .seq #[.int i tk, y] } := (sb.2 _ (Nat.ne_of_gt hel)).trans hT
    have new : ObjOk X.prog X.w (upd H s.heap.objs.size (.tup [.int (i : Nat), x])) h'' s.heap.objs.size (.tup [.int (i : Nat), x]) :=
      ⟨by show 2 ≤ sizeLine; decide, [.int i tk, y], .cons ⟨_, rfl⟩ (.cons ru .nil), ⟨_, hT2, rfl, _, rfl⟩⟩
    have I1 : Inv X pins σ (upd H s.heap.objs.size (.tup [.int (i : Nat), x])) { s with heap := h'', toks := tk + 1 } :=
      I.turnedNew (ch := [e, it]) (fun b ob hb q => (sb.2 b (fun z => hb (by simp [z]))).trans (hk b ob (fun z => hb (by simp [z])) (fun z => hb (by simp [z])) q)) hf (Nat.le_refl _) new
    refine ⟨.ref s.heap.objs.size, _, I1, rfl, ⟨_, x, rfl, I.hok.fresh (Nat.le_refl _), rfl, fun ys hy => by rw [I.tuple_inj hy hq]; exact hx⟩, ⟨⟨y, ?_⟩, hit'.1.at fun o q => (sb.2 it (Ne.symm hne)).trans q, hne⟩, fun b hb => ?_⟩
    · have e1 : ((i + 1 : Nat) : Int) = (i : Int) + 1 := by omega
      rw [e1]; exact he'
    · have hb' : b < s.heap.objs.size := by
        have e' : b = e ∨ b = it := by simpa using hb
        rcases e' with z | z
        · rw [z]; exact hel
        · rw [z]; exact hil
      rw [upd_ne (Nat.ne_of_lt hb')]
      exact (hf b hb).1
  done := by
    intro X hP hw hK hc i pins s σ H E I hf st hg
    subst hP hw hK
    obtain ⟨⟨old, he⟩, hit, hne⟩ := st
    obtain ⟨xs, hq, hx⟩ := hg
    obtain ⟨its, rv, p, hz⟩ := I.tuple hq
    obtain ⟨f0, f1, f2, f3, f4, f5⟩ := hf it (by simp)
    have hl := rv.length
    have hd : X.A.handled = none := I.ok.hd hc
    have hT : s.TypeIs (.ref e) "enumerate" := ⟨_, he, rfl⟩
    unfold pyNext
    refine wpAny_bind (wpAny_attempt (wpAny_callSpecial?_slot (name := Str.ofString "__next__") hT F.slot_enumerate_next
      (wpAny_call_entry F.slot_enumerate_next hT F.entry_enumerate_next ?_ (F.args_enumerate_next_1 _))))
    show wpAny _ _ (field (.ref e) 2 >>= _) _ _ _
    refine wpAny_bind (wpAny_field he rfl (x := .ref it) rfl ?_)
    refine wpAny_bind (RZ.nextOf_tuple_end hd hit p (by simp; omega) fun h' x he' hx' => ?_)
    obtain ⟨o, ho, hc⟩ := hx'
    refine wpAny_bind (wpAny_isInstance (T := "StopIteration") (b := true) ⟨o, ho, hc⟩ isSubtype_stop ?_)
    exact wpAny_pure ⟨rfl, I.turned (t' := s.toks) (fun b o hb q => he' b o hb q) f0 f1 f3 f4 f5⟩
  self := fun A i s Q E st h => let ⟨⟨_, he⟩, _⟩ := st; wpAny_pyIter_enum he h
set_option maxHeartbeats 1000000 in
theorem meets_enumerate_new1 {v : Value} {o : Obj} {H : Heap → Prop} (B : Begins v o H) :
    Meets (Builtin.«enumerate.__new__» ⟨[.type "enumerate", v], []⟩) (fun _ R s => H s.heap ∧
      R (.ok (.ret (.ref (s.heap.push o).objs.size))) { s with heap := (s.heap.push o).push { cls := .type "enumerate", data := .fields #[.none, .bool false, .ref s.heap.objs.size, rawInt 0, .none, .none] } }) :=
  .of_wp fun prog w A R s h => by
    obtain ⟨hp, g, d, tk, os⟩ := s; obtain ⟨h1, h⟩ := h
    have hsub := sub_enumerate
    have q1 : ∀ {A' : Around} {E : Value → Shared → Prop} {Q : Value → Shared → Prop}, Q (.ref hp.objs.size) ⟨hp.push o, g, d, tk, os⟩ → wpAny (model prog w) A' (pyIter v) Q E ⟨hp, g, d, tk, os⟩ :=
      fun q => B.iter prog w _ _ ⟨hp, g, d, tk, os⟩ _ h1 q
    wp_walk using q1
    refine wpAny_stack_any fun st => wpAny_pure ?_
    split
    · rename_i c _ _ _ _ _
      cases (c == Value.type "enumerate")
      · wp_walk using q1
        exact ⟨_, rfl, h⟩
      · wp_walk using q1
        exact ⟨_, rfl, h⟩
    · wp_walk using q1
      exact ⟨_, rfl, h⟩
theorem enum_begins1 {prog : Program} {w : World} {A : Around} {E : Value → Shared → Prop} {s : Shared} {v : Value} {o : Obj} {H : Heap → Prop} {Q : Value → Shared → Prop} (B : Begins v o H) (h1 : H s.heap)
    (h : ∀ h', IsEnum h' (s.heap.objs.size + 1) s.heap.objs.size 0 .none → h'.get? s.heap.objs.size = some o → h'.objs.size = s.heap.objs.size + 2 →
      (∀ b o, s.heap.get? b = some o → h'.get? b = some o) → Q (.ref (s.heap.objs.size + 1)) { s with heap := h' }) :
    wpAny (model prog w) A (call (.type "enumerate") [v]) Q E s := by
  refine callType_new F.called_enumerate (by decide) (F.typeCall_enumerate_1 _) (F.newCall_enumerate_1 _) (fun obj => F.args_object_init_2 obj _) F.entry_enumerate_new
    (meets_enumerate_new1 B) ⟨h1, ?_⟩
  have hz : (s.heap.push o).objs.size = s.heap.objs.size + 1 := Heap.size_push ..
  show _ ∧ _
  rw [hz]
  have he : IsEnum ((s.heap.push o).push { cls := .type "enumerate", data := .fields #[.none, .bool false, .ref s.heap.objs.size, rawInt 0, .none, .none] }) (s.heap.objs.size + 1) s.heap.objs.size 0 .none := by
    have := Heap.get?_push_size (s.heap.push o) (o := { cls := .type "enumerate", data := .fields #[.none, .bool false, .ref s.heap.objs.size, rawInt 0, .none, .none] }) rfl
    rw [hz] at this; exact this
  refine ⟨⟨_, he, rfl⟩, h _ he (Heap.get?_push_of_some _ (Heap.get?_push_size _ B.free)) (by rw [Heap.size_push, hz]) fun b o x => Heap.get?_push_of_some _ (Heap.get?_push_of_some _ x)⟩
def iEnumA (K : PySem.W.Frag) (ta : TA) : TI := fun σ H R => ta σ H fun vs H1 => ∃ a xs, vs = [.ref a] ∧ ((SqL K H1 a xs ∧ R (Ite K a) H1) ∨ (SqT K H1 a xs ∧ R (IteT K a) H1))
theorem pi_enumA {ta : TA} {tpos : Pos} {elts : List Expr} {kk : Nat} (hg : Gl X "enumerate") (hm : X.mg "enumerate" = none) (ha : PA X [e] ta) (hs : starEach [e] X.env = [(false, eval e X.env)] := by rfl) :
    PI X (.Tuple elts kk tpos) (.Call (.Name "enumerate" p) [e] [] pos) (iEnumA X.K ta) := by
  refine ⟨fun pins s σ H R I h => ?_⟩
  refine Call_ (ld_blt I hg hm boot_enumerate (PyProof.Rows.callWith_type1 (thn (ha.run pos pins s σ H _ I h) fun us s1 ⟨vs, H1, I1, r1, q1⟩ => ?_) hs rfl))
  obtain ⟨a, xs, ex, q1⟩ := q1
  subst ex
  cases r1 with
  | cons r rr =>
    cases rr
    cases r
    rcases q1 with ⟨hq, q⟩ | ⟨hq, q⟩
    · obtain ⟨its, rv, p', hz⟩ := I1.list hq
      refine call_enumerate_list p'.isList fun h' he hit hsz hk => wpAny_pyIter_enum he ?_
      have I2 : Inv X pins σ H1 { s1 with heap := h' } := I1.kept (t' := s1.toks) hk
      refine ⟨s1.heap.objs.size + 1, [s1.heap.objs.size + 1, s1.heap.objs.size], _, _, H1, rfl, I2, turn_enum a (s1.heap.objs.size + 1) s1.heap.objs.size, ⟨⟨.none, he⟩, hit, Nat.succ_ne_self _⟩, fun b hb => ?_, q⟩
      have e' : b = s1.heap.objs.size + 1 ∨ b = s1.heap.objs.size := by simpa using hb
      have hle : s1.heap.objs.size ≤ b := by
        rcases e' with z | z
        · rw [z]; exact Nat.le_add_right _ _
        · rw [z]; exact Nat.le_refl _
      exact I1.fpOk hle (I1.hok.fresh hle)
    · obtain ⟨its, rv, p', hz⟩ := I1.tuple hq
      have hal : a < s1.heap.objs.size := by obtain ⟨_, z, _⟩ := p'; exact Heap.lt_size z
      refine enum_begins1 (begins_tuple a its.toArray) p' fun h' he hit hsz hk => wpAny_pyIter_enum he ?_
      have I2 : Inv X pins σ H1 { s1 with heap := h' } := I1.kept (t' := s1.toks) hk
      refine ⟨s1.heap.objs.size + 1, [s1.heap.objs.size + 1, s1.heap.objs.size], _, _, H1, rfl, I2, turn_enumT a (s1.heap.objs.size + 1) s1.heap.objs.size (Nat.ne_of_lt hal) (Nat.ne_of_gt (Nat.lt_succ_of_lt hal)), ⟨⟨.none, he⟩, ⟨_, hit, rfl, rfl⟩, Nat.succ_ne_self _⟩, fun b hb => ?_, q⟩
      have e' : b = s1.heap.objs.size + 1 ∨ b = s1.heap.objs.size := by simpa using hb
      have hle : s1.heap.objs.size ≤ b := by
        rcases e' with z | z
        · rw [z]; exact Nat.le_add_right _ _
        · rw [z]; exact Nat.le_refl _
      exact I1.fpOk hle (I1.hok.fresh hle)
/-- 0, 1, .. beside the items -/
def enumD : Nat → List PyData → List PyData
  | _, [] => []
  | n, x :: xs => .tuple [.int (n : Nat), x] :: enumD (n + 1) xs
theorem enumD_length : ∀ (xs : List PyData) (n : Nat), (enumD n xs).length = xs.length
  | [], _ => rfl
  | _ :: xs, n => congrArg (· + 1) (enumD_length xs (n + 1))
theorem enumD_get : ∀ {xs : List PyData} {n i : Nat} {d : PyData}, (enumD n xs)[i]? = some d → ∃ x, xs[i]? = some x ∧ d = .tuple [.int ((n + i : Nat) : Int), x]
  | [], _, _, _, h => by simp [enumD] at h
  | x :: xs, n, 0, d, h => by simp [enumD] at h; exact ⟨x, rfl, h.symm⟩
  | x :: xs, n, i + 1, d, h => by
    obtain ⟨u, h1, h2⟩ := enumD_get (xs := xs) (n := n + 1) (i := i) (d := d) (by simpa [enumD] using h)
    exact ⟨u, by simpa using h1, by rw [h2, show n + 1 + i = n + (i + 1) by omega]⟩
def enumQ (ds : List PyData) (K : List PyData → Prop) : Prop := match ds with
  | [.list xs] => At (enumD 0 xs) K
  | [.tuple xs] => At (enumD 0 xs) K
  | _ => False
theorem q_enumL {xs : List PyData} {K : List PyData → Prop} : enumQ [.list xs] K = K (enumD 0 xs) := At.eq
theorem q_enumT {xs : List PyData} {K : List PyData → Prop} : enumQ [.tuple xs] K = K (enumD 0 xs) := At.eq
theorem walkD_enumL {F : Hp} {a : Addr} {us : List V} {xs : List PyData} (h1 : RdL K F a us) (h2 : DRs K F us xs) : WalkD K true F (Ite K a) (enumD 0 xs) := by
  refine ⟨fun H => SqL K H a us, fun i H v H' => ∃ T x, v = .ref T ∧ H T = none ∧ H' = upd H T (.tup [.int (i : Nat), x]) ∧ us[i]? = some x, ⟨fun i H hi q => ?_, fun H q => ?_, fun i H x H' hi q y => ?_⟩, fun H e => (h1.mono e).sq, fun i H x H' d _ e y => ?_⟩
  · rw [enumD_length, ← h2.length] at hi
    exact ⟨us, us[i]'hi, q, by simp [hi]⟩
  · exact ⟨us, q, by rw [enumD_length, ← h2.length]; exact Nat.le_refl _⟩
  · obtain ⟨T, u, z1, z2, z3, z4⟩ := y
    exact ⟨T, u, z1, z2, z3, z4 us q⟩
  · obtain ⟨T, u, z1, z2, z3, z4⟩ := y
    obtain ⟨dx, e1, rfl⟩ := enumD_get e
    obtain ⟨u', y1, y2⟩ := h2.get e1
    rw [z4] at y1
    cases y1
    refine .inr ⟨rfl, T, _, _, z1, z2, z3, rfl, .cons ?_ (.one y2)⟩
    rw [Nat.zero_add]
    exact .int _
theorem walkD_enumT {F : Hp} {a : Addr} {us : List V} {xs : List PyData} (h1 : SqT K F a us) (h2 : DRs K F us xs) : WalkD K true F (IteT K a) (enumD 0 xs) := by
  refine ⟨fun H => SqT K H a us, fun i H v H' => ∃ T x, v = .ref T ∧ H T = none ∧ H' = upd H T (.tup [.int (i : Nat), x]) ∧ us[i]? = some x, ⟨fun i H hi q => ?_, fun H q => ?_, fun i H x H' hi q y => ?_⟩, fun H e => Evl.ex_t e h1, fun i H x H' d _ e y => ?_⟩
  · rw [enumD_length, ← h2.length] at hi
    exact ⟨us, us[i]'hi, q, by simp [hi]⟩
  · exact ⟨us, q, by rw [enumD_length, ← h2.length]; exact Nat.le_refl _⟩
  · obtain ⟨T, u, z1, z2, z3, z4⟩ := y
    exact ⟨T, u, z1, z2, z3, z4 us q⟩
  · obtain ⟨T, u, z1, z2, z3, z4⟩ := y
    obtain ⟨dx, e1, rfl⟩ := enumD_get e
    obtain ⟨u', y1, y2⟩ := h2.get e1
    rw [z4] at y1
    cases y1
    refine .inr ⟨rfl, T, _, _, z1, z2, z3, rfl, .cons ?_ (.one y2)⟩
    rw [Nat.zero_add]
    exact .int _
theorem ienum {elts : List Expr} {kk : Nat} {tpos : Pos} (hm : X.mg "enumerate" = none) (ha : PA X [a] (liftA X.K Z was)) (hg : Gl X "enumerate" := by rfl) (hs : starEach [a] X.env = [(false, eval a X.env)] := by rfl) :
    PI X (.Tuple elts kk tpos) (.Call (.Name "enumerate" p) [a] [] pos) (liftI X.K Z true (dIt enumQ was)) :=
  PI.of (pi_enumA hg hm ha hs) fun σ H R ⟨g, F, env, P, k, w, q⟩ => ⟨g, F, env, _, k, w, fun ds env1 vs F1 H1 p e1 k1 r1 => by
    unfold enumQ at p
    split at p
    · obtain ⟨v, rfl, r2⟩ := r1.inv1
      obtain ⟨a, us, rfl, h1, h2⟩ := r2.inv_lst
      exact ⟨a, us, rfl, .inl ⟨(h1.mono k1.fh).sq, q _ env1 _ F1 H1 p.out e1 k1 (walkD_enumL h1 h2)⟩⟩
    · obtain ⟨v, rfl, r2⟩ := r1.inv1
      obtain ⟨a, us, rfl, h1, h2⟩ := r2.inv_tup
      exact ⟨a, us, rfl, .inr ⟨Evl.ex_t k1.fh h1, q _ env1 _ F1 H1 p.out e1 k1 (walkD_enumT h1 h2)⟩⟩
    · exact p.elim⟩
end
end DL

namespace DL
variable {T : List (PySem.Addr × PySem.Str)} {Z : Zx T}
open PySem PySem.Spec PyProof.Rows L2
open Evl (Ex)
section
variable {X : Cx} {a b e : Expr} {es : List Expr} {pos p : Pos} {was : DA} {wa wb we : DE} {K : PySem.W.Frag}
theorem maxOf_int (x : Int) : ∀ xs : List Int, PySem.W.maxOf x xs ∈ x :: xs ∧ ∀ a ∈ x :: xs, a ≤ PySem.W.maxOf x xs := by
  intro xs
  unfold PySem.W.maxOf
  induction xs generalizing x with
  | nil => exact ⟨by simp, fun a h => by simp at h; subst h; exact Int.le_refl _⟩
  | cons y ys ih =>
    rw [List.foldl_cons]
    by_cases h : x < y
    · rw [if_pos (show PySem.W.DatumOrd.lt x y = true from decide_eq_true h)]
      obtain ⟨h1, h2⟩ := ih y
      refine ⟨List.mem_cons_of_mem _ h1, fun a ha => ?_⟩
      rcases List.mem_cons.mp ha with rfl | ha
      · have := h2 y (by simp)
        omega
      · exact h2 a ha
    · rw [if_neg (show ¬ PySem.W.DatumOrd.lt x y = true from fun z => h (of_decide_eq_true z))]
      obtain ⟨h1, h2⟩ := ih x
      refine ⟨?_, fun a ha => ?_⟩
      · rcases List.mem_cons.mp h1 with z | z
        · rw [z]; simp
        · exact List.mem_cons_of_mem _ (List.mem_cons_of_mem _ z)
      · rcases List.mem_cons.mp ha with rfl | ha
        · exact h2 _ (by simp)
        · rcases List.mem_cons.mp ha with rfl | ha
          · have := h2 x (by simp)
            omega
          · exact h2 a (List.mem_cons_of_mem _ ha)
theorem readsAll_ints {h : Heap} : ∀ {its : List Value} {ns : List Int}, Vals (ns.map V.int) its → ∃ as, PySem.ReadsAll h its (ns.map PySem.W.Datum.toD) as
  | its, [], r => by cases r; exact ⟨_, .nil⟩
  | its, n :: ns, r => by
    cases r with
    | cons r1 r2 =>
      obtain ⟨t, rfl⟩ := r1
      obtain ⟨as, q⟩ := readsAll_ints r2
      exact ⟨_, .cons (.int _ _) q⟩
def rMaxD (K : PySem.W.Frag) : List V → Hp → VK → Prop := fun vs H Q => ∃ (a : Addr) (ns : List Int), vs = [.ref a] ∧ (SqL K H a (ns.map V.int) ∨ SqT K H a (ns.map V.int)) ∧ 0 < ns.length ∧ ∀ m, m ∈ ns → (∀ a ∈ ns, a ≤ m) → Q (.int m) H
theorem call_maxD (hc : X.calm = true) (hu : X.A.units + 64 < cLine) : CallR X (.builtin "max") (rMaxD X.K) := by
  intro pins s σ H xs us Q I r h
  obtain ⟨a, ns, rfl, h | h, hn, q⟩ := h
  · exact cr_max hc pins s σ H _ us Q I r ⟨a, ns, rfl, h, hn, q⟩
  · cases r.ref1
    obtain ⟨its, rv, ht, hz⟩ := I.tuple h
    cases ns with
    | nil => simp at hn
    | cons n ns =>
      have ht2 : s.heap.IsTuple a its.toArray := ht
      refine PySem.W.max_tuple_datum (I.ok.hd hc) ht2 (x := n) (xs := ns) (readsAll_ints (ns := n :: ns) rv) (by show X.A.units + 1 + 0 < cLine; omega) fun i v h' tk hv hh hk => ?_
      obtain ⟨as, hh⟩ := hh
      have hh : PySem.Reads h' v (.int (PySem.W.maxOf n ns)) as := hh
      cases hh
      obtain ⟨h1, h2⟩ := maxOf_int n ns
      exact ⟨.int _, H, I.kept hk, ⟨_, rfl⟩, q _ h1 h2⟩
/-- what max tells of whole numbers -/
def maxQ (o : Option (List Int)) (P : PyData → Prop) : Prop := match o with
  | some ns => 0 < ns.length ∧ ∀ m, m ∈ ns → (∀ a ∈ ns, a ≤ m) → P (.int m)
  | none => False
def nMaxL (xs : List PyData) (P : PyData → Prop) : Prop := match xs with
  | [.list ds] => maxQ (intsD ds) P
  | [.tuple ds] => maxQ (intsD ds) P
  | _ => False
theorem dmaxL (hm : X.mg "max" = none) (hc : X.calm = true) (hu : X.A.units + 64 < cLine) (ha : PA X (e :: es) (liftA X.K Z was)) (hg : Gl X "max" := by rfl)
    (he : starEach (e :: es) X.env = (false, eval e X.env) :: starEach es X.env := by rfl) (hpl : (backTo pos (starEach es X.env)).any (·.1) = false := by rfl) : PE X (.Call (.Name "max" p) (e :: es) [] pos) (liftE X.K Z (dB nMaxL was)) :=
  dcb (call_maxD hc hu) (fun _ _ g F env σ H vs ds P Q k r f q => by
    unfold nMaxL at f
    split at f
    · obtain ⟨v, rfl, r0⟩ := r.inv1
      obtain ⟨a, us, rfl, h1, h2⟩ := r0.inv_lst
      unfold maxQ at f
      split at f
      · rename_i ns e
        cases ints_rel h2 e
        exact ⟨a, ns, rfl, .inl (h1.mono k.fh).sq, f.1, fun m z1 z2 => q _ _ F H (f.2 m z1 z2) (Ex.refl F) k (.int _)⟩
      · exact f.elim
    · obtain ⟨v, rfl, r0⟩ := r.inv1
      obtain ⟨a, us, rfl, h1, h2⟩ := r0.inv_tup
      unfold maxQ at f
      split at f
      · rename_i ns e
        cases ints_rel h2 e
        exact ⟨a, ns, rfl, .inr (Evl.ex_t k.fh h1), f.1, fun m z1 z2 => q _ _ F H (f.2 m z1 z2) (Ex.refl F) k (.int _)⟩
      · exact f.elim
    · exact f.elim) hm (by decide +kernel) ha hg (by decide) (by decide) he hpl
@[irreducible] def memD (x : PyData) (ds : List PyData) : Bool := ds.any fun z => PyData.eqv z x
theorem memD_raw {x : PyData} {ds : List PyData} : memD x ds = ds.any fun z => PyData.eqv z x := by
  unfold memD
  rfl
/-- a text within a text -/
@[irreducible] def inStr (a z : Str) : Bool := !(Builtin.Str.occurrences z a 0 z.length 1).isEmpty
def rIn2 (K : PySem.W.Frag) (n : Bool) : R2 := fun x y H Q => (∃ d ds, Dp K H x d ∧ (Dp K H y (.list ds) ∨ Dp K H y (.tuple ds)) ∧ SeqAt.shaped d = true ∧ SeqAt.shaped (.list ds) = true ∧ Q (.bl (memD d ds != n)) H)
theorem op_in2 (hu : X.A.units + 65 < cLine) : OpR X (compareOp .In) (rIn2 X.K false) := by
  intro pins s σ H x y v u Q I rx ry h
  obtain ⟨d, ds, hd, he, sd, se, q⟩ := h
  obtain ⟨as, r1⟩ := Dp.reads I d x v hd rx
  rw [memD_raw, show ∀ b : Bool, (b != false) = b by decide] at q
  rcases he with he | he
  · obtain ⟨bs, r2⟩ := Dp.reads I (.list ds) y u he ry
    exact SeqAt.in_list_reads r2 r1 (SeqAt.canLay_of_shaped se) (SeqAt.canLay_of_shaped sd) (room_in_shaped sd hu) ⟨.bl _, H, I, rfl, q⟩
  · obtain ⟨bs, r2⟩ := Dp.reads I (.tuple ds) y u he ry
    exact SeqAt.in_tuple_reads r2 r1 (SeqAt.canLay_of_shaped se) (SeqAt.canLay_of_shaped sd) (room_in_shaped sd hu) ⟨.bl _, H, I, rfl, q⟩
def rInA (K : PySem.W.Frag) : R2 := fun x y H Q => rIn2 K false x y H Q ∨ ∃ i j, x = .str i ∧ y = .str j ∧ Q (.bl (!(Builtin.Str.occurrences j i 0 j.length 1).isEmpty)) H
theorem op_inA (hu : X.A.units + 65 < cLine) : OpR X (compareOp .In) (rInA X.K) := OpR.or (op_in2 hu) op_in_str
/-- may be looked for -/
def shp (x : PyData) (ds : List PyData) : Prop := SeqAt.shaped x = true ∧ SeqAt.shaped (.list ds) = true
def oMem (n : Bool) (x y : PyData) (P : PyData → Prop) : Prop := match y with
  | .list ds => shp x ds ∧ P (.bool (memD x ds != n))
  | .tuple ds => shp x ds ∧ P (.bool (memD x ds != n))
  | .str z => (match x with
    | .str a => P (.bool (inStr a z != n))
    | _ => False)
  | _ => False
def oIn (x y : PyData) (P : PyData → Prop) : Prop := oMem false x y P
def oNin (x y : PyData) (P : PyData → Prop) : Prop := oMem true x y P
theorem q_inL {x : PyData} {ds : List PyData} {P : PyData → Prop} : oIn x (.list ds) P = (shp x ds ∧ P (.bool (memD x ds != false))) := rfl
theorem q_inT {x : PyData} {ds : List PyData} {P : PyData → Prop} : oIn x (.tuple ds) P = (shp x ds ∧ P (.bool (memD x ds != false))) := rfl
theorem q_inS {a z : Str} {P : PyData → Prop} : oIn (.str a) (.str z) P = P (.bool (inStr a z != false)) := rfl
theorem q_ninL {x : PyData} {ds : List PyData} {P : PyData → Prop} : oNin x (.list ds) P = (shp x ds ∧ P (.bool (memD x ds != true))) := rfl
theorem q_ninT {x : PyData} {ds : List PyData} {P : PyData → Prop} : oNin x (.tuple ds) P = (shp x ds ∧ P (.bool (memD x ds != true))) := rfl
theorem q_ninS {a z : Str} {P : PyData → Prop} : oNin (.str a) (.str z) P = P (.bool (inStr a z != true)) := rfl
theorem mem_reads {g : Gx Z} {F : Hp} {env : List SD} {σ : L2.St} {H : Hp} (k : Ok K g F env σ H) {vx vy : V} {x : PyData} {ds : List PyData} {n : Bool} {Q : VK} (rx : DR K F vx x) (ry : DR K F vy (.list ds) ∨ DR K F vy (.tuple ds)) (h : shp x ds) (q : Q (.bl (memD x ds != n)) H) :
    rIn2 K n vx vy H Q := by
  refine ⟨x, ds, DR.dp (drH k rx) (dict_of_shaped h.1), ?_, h.1, h.2, q⟩
  have z : PyData.hasDictAll ds = false := by simpa [PyData.hasDict] using dict_of_shaped h.2
  rcases ry with ry | ry
  · exact .inl (DR.dp (drH k ry) (by simpa [PyData.hasDict] using z))
  · exact .inr (DR.dp (drH k ry) (by simpa [PyData.hasDict] using z))
theorem opd_in : OpD K (rInA K) oIn := by
  intro _ _ g F env σ H vx vy dx dy P Q k rx ry p q
  unfold oIn oMem at p
  split at p
  · exact .inl (mem_reads k rx (.inl ry) p.1 (q _ _ F H p.2 (Ex.refl F) k (.bl _)))
  · exact .inl (mem_reads k rx (.inr ry) p.1 (q _ _ F H p.2 (Ex.refl F) k (.bl _)))
  · split at p
    · rename_i a
      cases rx.inv_str
      cases ry.inv_str
      refine .inr ⟨_, _, rfl, rfl, q _ _ F H p (Ex.refl F) k ?_⟩
      unfold inStr
      rw [show ∀ b : Bool, (b != false) = b by decide]
      exact .bl _
    · exact p.elim
  · exact p.elim
theorem _root_.L2.Room.u65 {k : Nat} {A : Around} (r : Room k A) : A.units + 65 < cLine := by have := r.un; omega
theorem tin {k : Nat} (hr : Room k X.A) (ha : PE X a (liftE X.K Z wa)) (hb : PE X b (liftE X.K Z wb)) (hm : behindInMarks .In b = false := by rfl) : PT X (.Compare a [.In] [b] pos) (liftT X.K Z (dTest (dOp oIn wa wb))) := dcmpT (op_inA hr.u65) opd_in ha hb hm
end
end DL

namespace DL
variable {T : List (PySem.Addr × PySem.Str)} {Z : Zx T}
open PySem PySem.Spec PyProof.Rows L2
structure Sm (b k : Nat) (d : PyData) : Prop where
  rp : rp d = true
  bulk : d.bulk ≤ b
  depth : d.depth ≤ k
theorem Sm.mono {b k b' k' : Nat} {d : PyData} (h : Sm b k d) (hb : b ≤ b' := by omega) (hk : k ≤ k' := by omega) : Sm b' k' d := ⟨h.rp, Nat.le_trans h.bulk hb, Nat.le_trans h.depth hk⟩
theorem sm_all {b k : Nat} : ∀ {xs : List PyData}, (∀ x ∈ xs, Sm b k x) → rpAll xs = true ∧ PyData.bulkAll xs ≤ xs.length * (b + 1) ∧ PyData.depthAll xs ≤ k
  | [], _ => ⟨by simp [rpAll], by simp [PyData.bulkAll], by simp [PyData.depthAll]⟩
  | x :: xs, h => by
    obtain ⟨h1, h2, h3⟩ := sm_all (xs := xs) fun y hy => h y (List.mem_cons_of_mem _ hy)
    have hx := h x List.mem_cons_self
    refine ⟨?_, ?_, ?_⟩
    · rw [rpAll, hx.rp, h1]; rfl
    · rw [PyData.bulkAll, List.length_cons, Nat.add_mul]
      have := hx.bulk
      omega
    · rw [PyData.depthAll]
      have := hx.depth
      omega
theorem Sm.tup {n b k : Nat} {xs : List PyData} (hl : xs.length ≤ n) (h : ∀ x ∈ xs, Sm b k x) : Sm (n * (b + 1)) (k + 1) (.tuple xs) := by
  obtain ⟨h1, h2, h3⟩ := sm_all h
  refine ⟨by simpa only [DL.rp] using h1, ?_, ?_⟩
  · rw [PyData.bulk]
    exact Nat.le_trans h2 (Nat.mul_le_mul_right _ hl)
  · rw [PyData.depth]
    omega
theorem Sm.lst {n b k : Nat} {xs : List PyData} (hl : xs.length ≤ n) (h : ∀ x ∈ xs, Sm b k x) : Sm (n * (b + 1)) (k + 1) (.list xs) := by
  obtain ⟨h1, h2, h3⟩ := sm_all h
  refine ⟨by simpa only [DL.rp] using h1, ?_, ?_⟩
  · rw [PyData.bulk]
    exact Nat.le_trans h2 (Nat.mul_le_mul_right _ hl)
  · rw [PyData.depth]
    omega
theorem Sm.int {i : Int} (h : i.natAbs < 10 ^ 250) (b k : Nat) : Sm b k (.int i) := ⟨by simpa only [DL.rp, decide_eq_true_eq] using h, by rw [PyData.bulk]; omega, by rw [PyData.depth]; omega⟩
theorem Sm.bool {t : Bool} (b k : Nat) : Sm b k (.bool t) := ⟨rfl, by rw [PyData.bulk]; omega, by rw [PyData.depth]; omega⟩
theorem Sm.none (b k : Nat) : Sm b k .none := ⟨rfl, by rw [PyData.bulk]; omega, by rw [PyData.depth]; omega⟩
end DL

namespace DL
variable {T : List (PySem.Addr × PySem.Str)} {Z : Zx T}
open PySem PySem.Spec PyProof.Rows L2
open Evl (Ex)

mutual
/-- no list in it -/
def lf : PyData → Bool
  | .none => true
  | .bool _ => true
  | .int _ => true
  | .str _ => true
  | .list _ => false
  | .tuple ds => lfs ds
  | .dict [] => true
  | .dict (_ :: _) => false
def lfs : List PyData → Bool
  | [] => true
  | d :: ds => lf d && lfs ds
end
section
variable {K : PySem.W.Frag} {F H : Hp} {b : Addr} {us us' : List V}
end
section
variable {X : Cx} {e b b2 : Expr} {we wb wb2 : DE} {wx : DX} {m : Nat} {pos : Pos}
end
section
variable {K : PySem.W.Frag} {F H : Hp} {vs : List V} {as : List SD}
def atB : PyData → Bool
  | .none => true
  | .bool _ => true
  | .int _ => true
  | .str _ => true
  | _ => false
def atoms : List SD → Bool
  | [] => true
  | .un :: r => atoms r
  | .dat d :: r => atB d && atoms r
  | .cel _ xs :: r => xs.all atB && atoms r
  | .dic _ :: _ => false
theorem atoms_get : ∀ {env : List SD} {j : Nat} {s : SD}, atoms env = true → env[j]? = some s → match s with | .un => True | .dat d => atB d = true | .cel _ xs => xs.all atB = true | .dic _ => False
  | [], j, s, _, e => by simp at e
  | .un :: r, 0, s, h, e => by simp at e; subst e; trivial
  | .dat d :: r, 0, s, h, e => by simp only [atoms, Bool.and_eq_true] at h; simp at e; subst e; exact h.1
  | .cel p xs :: r, 0, s, h, e => by simp only [atoms, Bool.and_eq_true] at h; simp at e; subst e; exact h.1
  | .dic _ :: r, _, s, h, e => by simp [atoms] at h
  | .un :: r, j + 1, s, h, e => atoms_get (env := r) (j := j) h (by simpa using e)
  | .dat d :: r, j + 1, s, h, e => by simp only [atoms, Bool.and_eq_true] at h; exact atoms_get (env := r) (j := j) h.2 (by simpa using e)
  | .cel p xs :: r, j + 1, s, h, e => by simp only [atoms, Bool.and_eq_true] at h; exact atoms_get (env := r) (j := j) h.2 (by simpa using e)
theorem at_any {F' : Hp} {v : V} {d : PyData} (h : atB d = true) (r : DR K F v d) : DR K F' v d := by
  cases r with
  | non => exact .non
  | bl b => exact .bl b
  | int i => exact .int i
  | str x => exact .str x
  | lst _ _ => cases h
  | tup _ _ => cases h
  | dct _ _ => cases h
  | row _ _ => cases h
  | exc _ _ => cases h
  | opq _ _ => cases h
theorem ats_any {F' : Hp} : ∀ {vs : List V} {ds : List PyData}, ds.all atB = true → DRs K F vs ds → DRs K F' vs ds
  | _, _, _, .nil => .nil
  | _, _, h, .cons x y => by
    simp only [List.all_cons, Bool.and_eq_true] at h
    exact .cons (at_any h.1 x) (ats_any h.2 y)
abbrev noH : Hp := fun _ => none
theorem ArgsOk.bare (ha : ArgsOk T K F H vs as) (h : atoms as = true) : ArgsOk T K noH H vs as where
  len := ha.len
  fh := fun a o e => by cases e
  dat := fun i d e => by
    obtain ⟨v, h1, h2⟩ := ha.dat i d e
    exact ⟨v, h1, at_any (atoms_get h e) h2⟩
  cel := fun i p xs e => by
    obtain ⟨rfl, a, us, h1, h2, h3, h4⟩ := ha.cel i p xs e
    exact ⟨rfl, a, us, h1, rfl, h3, ats_any (atoms_get h e) h4⟩
  sep := ha.sep
  nod := ha.nod
  tab := ha.tab
  nt := fun _ _ e => by cases e
/-- both -/
def joinH (F F' : Hp) : Hp := fun a => match F' a with
  | some o => some o
  | none => F a
theorem PostOk.back {F' H' : Hp} {as' : List SD} {v : V} {r : SD} (ha : ArgsOk T K F H vs as) (p : PostOk T K noH H vs as F' H' as' v r) : PostOk T K F H vs as (joinH F F') H' as' v r := by
  have e1 : Ex F (joinH F F') := fun a o e => by
    unfold joinH
    split
    · rename_i u z
      rcases p.newF a u z with y | y
      · cases y
      · have := ha.fh a o e
        rw [y] at this
        cases this
    · exact e
  have e2 : Ex F' (joinH F F') := fun a o e => by
    unfold joinH
    rw [e]
  have nn : ∀ {a : Addr}, F a = none → F' a = none → joinH F F' a = none := fun {a} h1 h2 => by
    unfold joinH
    rw [h2]
    exact h1
  have fr : ∀ (a : Addr) (o : HO), F a = some o → F' a = none → H' a = some o := fun a o e n => (p.frame.stay a o (ha.fh a o e) fun i q xs z y => by
    obtain ⟨_, b, us, y1, y2, _⟩ := ha.cel i q xs z
    rw [y] at y1
    cases y1
    rw [e] at y2
    cases y2).same fun ps z => ha.nt a ps (by rw [e, z])
  refine ⟨e1, fun a ps e => ?_, fun a o e => ?_, fun a o e => ?_, p.frame, fun i q xs a z y => ?_, ?_⟩
  · unfold joinH at e
    split at e
    · rename_i u z
      cases e
      exact p.nt a _ z
    · exact ha.nt a ps e
  · unfold joinH at e
    split at e
    · rename_i u z
      cases e
      exact p.fh a _ z
    · exact fr a o e ‹_›
  · unfold joinH at e
    split at e
    · rename_i u z
      exact .inr ((p.newF a u z).elim (fun w => by cases w) id)
    · exact .inl e
  · obtain ⟨ys, us, c1, c2, c3, c4⟩ := p.cel i q xs a z y
    obtain ⟨_, b, us0, y1, y2, _⟩ := ha.cel i q xs z
    rw [y] at y1
    cases y1
    exact ⟨ys, us, c1, nn y2 c2, c3, c4.mono e2⟩
  · have := p.res
    cases r with
    | un => exact this
    | dat d => exact DR.mono e2 this
    | dic _ => exact this.elim
    | cel b xs =>
      obtain ⟨a, us, h1, h2, h3, h4, h5⟩ := this
      refine ⟨a, us, h1, nn ?_ h2, h3, h4.mono e2, h5⟩
      cases z : F a with
      | none => rfl
      | some o =>
        have := ha.fh a o z
        rw [h5] at this
        cases this
end
section
variable {P : Program} {w : World} {K : PySem.W.Frag} {mg : Str → Option Value} {base : Heap}
end
end DL

namespace DL
variable {T : List (PySem.Addr × PySem.Str)} {Z : Zx T}
open PySem PySem.Spec PyProof.Rows L2
open Evl (Ex)
section
variable {X : Cx} {e : Expr} {wx : DX} {m : Nat} {pos : Pos}
end
end DL

namespace DL
variable {T : List (PySem.Addr × PySem.Str)} {Z : Zx T}
open PySem PySem.Spec PyProof.Rows L2
open Evl (Ex)
def FxSays (fx : List Fx) (K : PySem.W.Frag) : Prop := fx.all (fun f => f.ok K) = true
structure TopX (fa : List He.Fa) (fn : List He.FnD) (fx : List Fx) (K : PySem.W.Frag) (mg : Str → Option Value) : Prop extends Top fa fn K mg where
  more : FxSays fx K
theorem TopX.fact {fa : List He.Fa} {fn : List He.FnD} {fx : List Fx} {K : PySem.W.Frag} {mg : Str → Option Value} (T : TopX fa fn fx K mg) (i : Nat) {f : Fx} (h : fx[i]? = some f := by rfl) : f.ok K = true := List.all_eq_true.mp T.more f (List.mem_of_getElem? h)
/-- a tuple of whole numbers at the module's top -/
def CtT (K : PySem.W.Frag) (mg : Str → Option Value) (x : Str) (ns : List Int) : Prop := ∃ a, mg x = some (.ref a) ∧ tupB K a ns = true
theorem TopX.tup {fa : List He.Fa} {fn : List He.FnD} {fx : List Fx} {K : PySem.W.Frag} {mg : Str → Option Value} (T : TopX fa fn fx K mg) (x : Str) (ns : List Int) (i : Nat) (h : fx[i]? = some (.tup x ns) := by rfl) : CtT K mg x ns := by
  obtain ⟨hp, h1, h2⟩ := T.ns
  obtain ⟨c1, c2⟩ := He.ba (show (He.eqO (PySem.W.nsIn K mainGlobals x) (some (some (.ref (He.ga K x)))) && tupB K (He.ga K x) ns) = true from T.fact i h)
  exact ⟨_, PySem.W.mg_of h1 h2 (He.eqO_ok c1), c2⟩
/-- a class of refusals of the module -/
def CtE (K : PySem.W.Frag) (mg : Str → Option Value) (x : Str) : Prop := mg x = some (.ref (He.ga K x)) ∧ XcF K x
theorem TopX.exc {fa : List He.Fa} {fn : List He.FnD} {fx : List Fx} {K : PySem.W.Frag} {mg : Str → Option Value} (T : TopX fa fn fx K mg) (c : Str) (i : Nat) (h : fx[i]? = some (.exc c) := by rfl) : CtE K mg c := by
  obtain ⟨hp, h1, h2⟩ := T.ns
  obtain ⟨c1, c2⟩ := He.ba (show (He.eqO (PySem.W.nsIn K mainGlobals c) (some (some (.ref (He.ga K c)))) && xcB K c) = true from T.fact i h)
  exact ⟨PySem.W.mg_of h1 h2 (He.eqO_ok c1), xcB_ok c2⟩
/-- a text at the module's top -/
theorem TopX.txt {fa : List He.Fa} {fn : List He.FnD} {fx : List Fx} {K : PySem.W.Frag} {mg : Str → Option Value} (T : TopX fa fn fx K mg) (x z : Str) (i : Nat) (h : fx[i]? = some (.txt x z) := by rfl) : ∃ t, mg x = some (.str z t) := by
  obtain ⟨hp, h1, h2⟩ := T.ns
  exact He.str_ok h1 h2 (T.fact i h)
section
variable {X : Cx} {a b e : Expr} {we wa wb : DE} {pos : Pos}
end
end DL

namespace DL
variable {T : List (PySem.Addr × PySem.Str)} {Z : Zx T}
open PySem PySem.Spec PyProof.Rows L2
open Evl (Ex)
section
variable {X : Cx} {a b e : Expr} {we wa wb : DE} {pos : Pos}
end
end DL

namespace DL
variable {T : List (PySem.Addr × PySem.Str)} {Z : Zx T}
open PySem PySem.Spec PyProof.Rows L2
open Evl (Ex)
section
variable {P : Program} {w : World} {A : Around} {E : Value → Shared → Prop} {s : Shared}
end
end DL

namespace DL
variable {T : List (PySem.Addr × PySem.Str)} {Z : Zx T}
open PySem PySem.Spec PyProof.Rows L2
open Evl (Ex)
/-- the members once each, rising -/
def sortSetQ (d : PyData) (K : List PyData → Prop) : Prop := match d with
  | .list ds => match intsD ds with
    | some ns => ns.length < 63 ∧ ∀ ms : List Int, ms.Pairwise (· < ·) → (∀ k, k ∈ ms ↔ k ∈ ns) → K (ms.map .int)
    | none => False
  | _ => False
section
variable {X : Cx} {a : Expr} {wa : DE} {p p2 pos pos2 : Pos}
end
end DL

namespace DL
variable {T : List (PySem.Addr × PySem.Str)} {Z : Zx T}
open PySem PySem.Spec PyProof.Rows L2
open Evl (Ex)
/-- what is told of a refusal: its class and the names' data -/
abbrev RD := Str → List SD → Prop
def liftW (K : PySem.W.Frag) (Z : Zx T) (Ed : RD) : WX := fun cls d σ H => ∃ c : Str, cls = .ref (He.ga K c) ∧ d = none ∧ XcF K c ∧ ∃ (g : Gx Z) (F : Hp) (env : List SD), Ok K g F env σ H ∧ Ed c env
abbrev DSpX := List SD → (SD → List SD → Prop) → (Str → Prop) → Prop
abbrev XWish := Value → Option Addr → Hp → Prop
def spDX (T : List (Addr × Str)) (K : PySem.W.Frag) (S : DSpX) (vs : List V) (H : Hp) (Q : VK) (E : XWish) : Prop := ∃ (F : Hp) (as : List SD) (P : SD → List SD → Prop) (Ec : Str → Prop), ArgsOk T K F H vs as ∧ S as P Ec ∧
  (∀ r as' v F' H', P r as' → PostOk T K F H vs as F' H' as' v r → Q v H') ∧ ∀ c F' H', Ec c → XcF K c → PostOk T K F H vs as F' H' [] .non (.dat .none) → E (.ref (He.ga K c)) none H'
/-- no cell is handed in -/
def NoCel (as : List SD) : Prop := ∀ (i : Nat) (p : Bool) (xs : List PyData), as[i]? ≠ some (.cel p xs)
/-- as FnG, for a def that may refuse -/
structure FnX (P : Program) (w : World) (K : PySem.W.Frag) (mg : Str → Option Value) (base : Heap) (T : List (Addr × Str)) (k : Nat) (f : Addr) (fd : FuncData) (ps : List Str) (S : DSpX) : Prop where
  len : ∀ as Q E, S as Q E → as.length = ps.length
  nc : ∀ as Q E, S as Q E → NoCel as
  go : ∀ (A : Around) (outer : List Env) (s : Shared) (H : Hp) (args : Args) (us : List Value) (vs : List V) (Q : VK) (E : XWish), Room k A → A.guards = some [] → Env0 P w K mg base A outer s H →
    BindsTo s fd args (ps.zip us) → Vals vs us → spDX T K S vs H Q E → codeAny (model P w) A (.call (.ref f) args) (CR (L2N.CX P w) outer P w H s Q E) s
structure DnX (P : Program) (w : World) (K : PySem.W.Frag) (mg : Str → Option Value) (base : Heap) (T : List (Addr × Str)) (x : Str) (k : Nat) (ps : List Str) (S : DSpX) : Prop where
  ex : ∃ fd, FnX P w K mg base T k (He.ga K x) fd ps S ∧ Binds K fd ps []
  glo : mg x = some (.ref (He.ga K x))
  kp : PySem.W.keepIn K (.ref (He.ga K x)) = true
section
variable {X : Cx} {k : Nat} {f : Addr} {fd : FuncData} {ps : List Str} {S : DSpX} {x : Str} {p pos : Pos} {e : Expr} {es : List Expr} {was : DA} {Ed : RD}
theorem run_x {pins : List (Addr × Obj)} {σ : L2.St} {H : Hp} {s : Shared} {Q : VK} {us : List Value} {vs : List V} (G : FnX X.prog X.w X.K X.mg X.base T k f fd ps S) (hr : Room k X.A) (hA : X.A.guards = some []) (hb : Binds X.K fd ps [])
    (tk : L2N.Takes X (liftW X.K Z Ed)) (I : Inv X pins σ H s) (rv : Vals vs us) (h : spDX T X.K S vs H Q (fun cls d H' => liftW X.K Z Ed cls d σ H')) : wpAny (model X.prog X.w) X.A (call (.ref f) us) (EP X pins σ Q) X.xe s := by
  obtain ⟨F0, as, P, Ec, a1, a2, _⟩ := id h
  have hl : (us ++ ([] : List Value)).length = ps.length := by rw [List.append_nil, ← rv.length, ← a1.len]; exact G.len _ _ _ a2
  have hbb := hb s us I.kIn hl
  rw [List.append_nil] at hbb
  refine wpAny_call (codeAny_mono (G.go X.A X.stack s H ⟨us, []⟩ us vs Q _ hr hA I.env0 hbb rv h) fun res s' hq => ?_)
  match res, hq with
  | .error e, hq => exact L2N.passAt tk σ pins H s e s' I hq
  | .ok (.ret u), hq => exact I.after hq
  | .ok .next, hq => exact hq.elim
  | .ok .brk, hq => exact hq.elim
  | .ok .cont, hq => exact hq.elim
/-- f(..), which may refuse -/
abbrev dCallE (S : DSpX) (Ed : RD) (was : DA) (env : List SD) (P : SD → List SD → Prop) : Prop := was env fun ds env1 => S (ds.map .dat) (fun r _ => P r env1) fun c => Ed c env1
theorem dcnE (D : DnX X.prog X.w X.K X.mg X.base T x k ps S) (hr : Room k X.A) (hA : X.A.guards = some []) (tk : L2N.Takes X (liftW X.K Z Ed))
    (ha : PA X (e :: es) (liftA X.K Z was)) (hg : Gl X x := by rfl) (hdb : (x == ("__debug__" : Str)) = false := by decide)
    (he : starEach (e :: es) X.env = (false, eval e X.env) :: starEach es X.env := by rfl) (hpl : (backTo pos (starEach es X.env)).any (·.1) = false := by rfl) : PE X (.Call (.Name x p) (e :: es) [] pos) (liftX X.K Z (dCallE S Ed was)) := by
  obtain ⟨fd, G, hb⟩ := D.ex
  refine ⟨fun pins s σ H Q I ⟨g, F, env, P, k0, w, q⟩ => wpAny_Call_Name_kw (ld_glob I hg D.glo (PySem.W.callWith_K (h₀ := X.base) I.ok.mod.kin D.kp (thn (ha.run pos pins s σ H (spDX T X.K S · · Q fun cls d H' => liftW X.K Z Ed cls d σ H') I ?_) fun us s1 ⟨vs, H1, I1, r, q1⟩ => ⟨I1.kIn, run_x G hr hA hb tk I1 r q1⟩) he hpl) hdb)⟩
  refine ⟨g, F, env, _, k0, w, fun ds env1 vs F1 H1 p1 e1 k1 r1 => ⟨F1, ds.map .dat, _, _, args_dat k1.fh k1.frame.tab k1.oldF.2 r1, p1, fun r as' v F2 H2 p2 po => ?_, fun c F2 H2 p2 xc po => ?_⟩⟩
  · obtain ⟨k2, r2⟩ := k1.after no_cel po
    exact q r env1 v F2 H2 p2 (e1.trans po.ex) k2 r2
  · exact ⟨c, rfl, rfl, xc, g, F2, env1, (k1.after no_cel po).1, p2⟩
end
section
variable {X : Cx} {m : Nat} {pos : Pos} {Ed : RD}
/-- raise X('..') -/
abbrev dRaise (c : Str) (Ed : RD) (_ : DEnds) (env : List SD) : Prop := Ed c env
theorem sraise {x msg : Str} {j : Nat} {p p2 pos2 : Pos} (hx : CtE X.K X.mg x) (hc : X.calm = true) (tk : L2N.Takes X (liftW X.K Z Ed)) (hg : Gl X x := by rfl) (hdb : (x == ("__debug__" : Str)) = false := by decide) :
    PS X (.Raise (some (.Call (.Name x p) [.Constant (.str msg) j p2] [] pos2)) none pos) (liftS X.K Z m (dRaise x Ed)) :=
  PS.of (L2N.ps_raise hc tk (L2N.pmk_own PySem.F.excBase_ValueError hx.2.made hx.1 hx.2.kp (raises_own hx.2.cls.hs hx.2.ty) hg hdb)) fun D σ H ⟨g, F, env, P, k, w, q⟩ =>
    (show liftW X.K Z Ed (.ref (He.ga X.K x)) none σ H from ⟨x, rfl, rfl, hx.2, g, F, env, k, w⟩)
end
section
variable {X : Cx} {pins : List (Addr × Obj)} {σ : L2.St} {H : Hp} {s : Shared} {a C : Addr} {oe : Obj} {vs : Array Value}
theorem excAt_new (e : s.heap.get? a = some oe) (hz : L2N.Zn (.ref C) none oe) (hd : oe.data = .fields vs) {P : Program} {w : World} {H : Hp} : ObjOk P w H s.heap a (.ext (ExcAt C a)) :=
  ⟨⟨oe, vs, e, hz.1, hz.2.1, hd, hz.2.2 vs hd⟩, ⟨oe, e⟩, fun h1 h2 ⟨o, us, q1, q2, q3, q4⟩ kp => ⟨o, us, kp o q1, q2, q3, q4⟩⟩
theorem Inv.caught (I : Inv X pins σ H s) (hex : X.ex = []) (h0 : X.s_0.heap.get? a = none) (hp : ∀ q ∈ X.pn ++ pins, q.1 ≠ a) (e : s.heap.get? a = some oe) (hz : L2N.Zn (.ref C) none oe) (hd : oe.data = .fields vs) (na : H a = none)
    (nL : a ≠ X.env.locals) : Inv (X.suite a (X.pn ++ pins)) [] σ (upd H a (.ext (ExcAt C a))) s where
  ok := I.ok.suite _ _
  os := I.os
  bare := I.bare
  base := by
    have hxx : ∀ b : Addr, b ∉ X.ex := fun b hb => by rw [hex] at hb; cases hb
    refine ⟨I.base.keep, I.base.slot, fun b o q n z => ?_, I.base.there, fun b xs q => ?_, fun b o u q => ?_, fun b ps q => ?_⟩
    · have ne : b ≠ a := fun y => by
        subst y
        have q' : X.s_0.heap.get? b = some o := q
        rw [h0] at q'
        cases q'
      rw [upd_ne ne]
      exact I.base.free b o q n z
    · have r := I.base.tups b xs q
      rw [upd_ne (ne_of_none r na)]
      exact r
    · have r := I.base.frzs b o u q
      rw [upd_ne (ne_of_none r na)]
      exact r
    · obtain ⟨more, r⟩ := I.base.tbls b ps q
      exact ⟨more, by rw [upd_ne (ne_of_none r na)]; exact r⟩
  loc := I.loc
  cell := I.cell
  free := by
    show upd H a (.ext (ExcAt C a)) X.env.locals = none
    rw [upd_ne (Ne.symm nL)]
    exact I.free
  freeC := fun x c q => by
    obtain ⟨v, hv⟩ := I.cell x c q
    have ne : c ≠ a := fun y => by
      subst y
      obtain ⟨o, h1, h2⟩ := hv
      rw [e] at h1
      cases h1
      rw [hd] at h2
      cases h2
    rw [upd_ne ne]
    exact I.freeC x c q
  pin := fun q hq => by
    rw [List.append_nil] at hq
    obtain ⟨z1, z2, z3, z4, z5⟩ := I.pin q hq
    exact ⟨z1, by rw [upd_ne (hp q hq)]; exact z2, z3, z4, z5⟩
  hok := fun b o q => by
    by_cases hb : b = a
    · subst hb
      rw [upd_same] at q
      cases q
      exact excAt_new e hz hd
    · rw [upd_ne hb] at q
      exact (I.hok b o q).stay (fun c u _ z => z) (fun c z => by rw [upd_ne (ne_of_none z na)]; exact z) fun c xs z => by rw [upd_ne (ne_of_none z na)]; exact z
  len := I.len
theorem Inv.released {pn' : List (Addr × Obj)} (I : Inv (X.suite a (X.pn ++ pins)) pn' σ H s) (ok : X.Ok) : Inv X pins σ H s where
  ok := ok
  os := I.os
  bare := I.bare
  base := I.base
  loc := I.loc
  cell := I.cell
  free := I.free
  freeC := I.freeC
  pin := fun q hq => I.pin q (List.mem_append_left _ hq)
  hok := I.hok
  len := I.len
end
end DL

namespace DL
variable {T : List (PySem.Addr × PySem.Str)} {Z : Zx T}
open PySem PySem.Spec PyProof.Rows L2
open Evl (Ex)
/-- a refusal as a datum -/
abbrev exD (c : Str) : PyData := .dict [(.none, .str c)]
/-- the suite's ends: the clause's name goes -/
def goneEnds (i : Nat) (E : DEnds) : DEnds :=
  { nx := fun e => bIf (noPar e i) (E.nx (e.set i .un)) False, rt := E.rt, bk := fun e => bIf (noPar e i) (E.bk (e.set i .un)) False, ct := fun e => bIf (noPar e i) (E.ct (e.set i .un)) False, nol := false }
abbrev dTry (i : Nat) (wb : RD → DS) (ws : DS) (E : DEnds) (env : List SD) : Prop := wb (fun c env1 => bIf (noPar env1 i) (ws (goneEnds i E) (env1.set i (.dat (exD c)))) False) { nx := E.nx, rt := E.rt, bk := E.bk, ct := E.ct, nol := false } env
section
variable {K : PySem.W.Frag} {g : Gx Z} {F : Hp} {env : List SD} {σ : L2.St} {H : Hp}
/-- what is fixed for a try's body -/
def tryZ (Z : Zx T) (F Pr : Hp) : Zx T := ⟨F, Z.H0, Z.A0, Pr, Z.P, Z.w, Z.W0⟩
def tryG (g : Gx Z) (F : Hp) : Gx (tryZ Z F g.Pr) := ⟨g.Pr, fun _ _ h => h, g.pl⟩
theorem Ok.inTry (k : Ok K g F env σ H) : Ok K (tryG g F) F env σ H where
  len := k.len
  fh := k.fh
  dat := k.dat
  cel := k.cel
  sep := k.sep
  pin := k.pin
  frame := k.frame
  newF := fun _ _ e => .inl e
  oldF := ⟨Ex.refl F, k.oldF.2⟩
  prot := k.prot
  dic := DicsOk.castZ (g := g) rfl rfl rfl (fun _ z => z) (fun _ z => z) k.dic
theorem Ok.ofTry (k0 : Ok K g F env σ H) {g2 : Gx (tryZ Z F g.Pr)} {F2 : Hp} {env2 : List SD} {σ2 : L2.St} {H2 : Hp} (k : Ok K g2 F2 env2 σ2 H2) : Ex F F2 ∧ Ok K g F2 env2 σ2 H2 := by
  have e : Ex F F2 := k.oldF.1
  refine ⟨e, ⟨k.len, k.fh, k.dat, k.cel, k.sep, k.pin, k.frame, fun a o h => ?_, ⟨k0.oldF.1.trans e, k.oldF.2⟩, fun a o h => k.prot a o (g2.px a o h), DicsOk.castZ (g := g2) (g2 := g) rfl rfl rfl (fun _ z => z) (fun a h6 => ?_) k.dic⟩⟩
  · rcases k.newF a o h with z | z
    · exact k0.newF a o z
    · exact .inr z
  · cases q : g.Pr a with
    | none => rfl
    | some o => rw [g2.px a o q] at h6; cases h6
theorem res_ofTry {F2 : Hp} {env2 : List SD} {σ2 : L2.St} {H2 : Hp} {v : V} {r : SD} (h : ResOk K (tryG g F) F2 env2 σ2 H2 v r) : ResOk K g F2 env2 σ2 H2 v r := by
  cases r <;> exact h
theorem Ends4.inTry {m : Nat} {P : DEnds} {D : Ends} (k0 : Ok K g F env σ H) (q : Ends4 K m g F P D) : Ends4 K m (tryG g F) F { nx := P.nx, rt := P.rt, bk := P.bk, ct := P.ct, nol := false } D where
  nx := fun env' σ' F' H' p e k => q.nx env' σ' F' H' p e (k0.ofTry k).2
  bk := fun env' σ' F' H' p e k => q.bk env' σ' F' H' p e (k0.ofTry k).2
  ct := fun env' σ' F' H' p e k => q.ct env' σ' F' H' p e (k0.ofTry k).2
  rt := fun r env' v σ' F' H' p e k rr => q.rt r env' v σ' F' H' p e (k0.ofTry k).2 (res_ofTry rr)
/-- the slot i holds nothing any more -/
def goneD (i : Nat) (D : Ends) : Ends := { nx := fun σ' H' => D.nx (σ'.set i none) H', rt := D.rt, bk := fun σ' H' => D.bk (σ'.set i none) H', ct := fun σ' H' => D.ct (σ'.set i none) H' }
theorem Ends4.gone {m i : Nat} {P : DEnds} {D : Ends} (q : Ends4 K m g F P D) : Ends4 K m g F (goneEnds i P) (goneD i D) where
  nx := fun env' σ' F' H' p e k => q.nx _ _ F' H' (bIf_and p).2 e (k.setU (noPar_of (bIf_and p).1))
  bk := fun env' σ' F' H' p e k => q.bk _ _ F' H' (bIf_and p).2 e (k.setU (noPar_of (bIf_and p).1))
  ct := fun env' σ' F' H' p e k => q.ct _ _ F' H' (bIf_and p).2 e (k.setU (noPar_of (bIf_and p).1))
  rt := q.rt
end
section
variable {X : Cx} {m i : Nat} {pos pos' np : Pos} {n : Str} {body suite : List Stmt} {b₀ : Stmt} {wb : RD → DS} {ws : DS}
end
end DL

namespace DL
variable {T : List (PySem.Addr × PySem.Str)} {Z : Zx T}
open PySem PySem.Spec PyProof.Rows L2
open Evl (Ex)
section
variable {P : Program} {w : World} {K : PySem.W.Frag} {mg : Str → Option Value} {base : Heap}
/-- as dfn, for a def that may refuse: Ec is what its caller wishes of refusals -/
theorem dfnX {x qual : Str} {st : Stmt} {f : Addr} {fd : FuncData} {N ps : List Str} {k : Nat} {S : DSpX} (Fn : Fun K x qual st f fd) (sc : FnScope N ps (defScope st)) (len : ∀ as Q E, S as Q E → as.length = ps.length) (nc : ∀ as Q E, S as Q E → NoCel as)
    (hbody : ∀ {Z : Zx T} (Ec : Str → Prop) (cdv : Value) (A : Around) (outer : List Env) (s : Shared) (H : Hp) (E : XWish), L2N.Takes (cxOf (L2N.CX P w) P w K mg base N qual (defScope st) f cdv A outer s H E) (liftW K Z fun c _ => Ec c) →
      PassesOwn (model P w) (A.deeper (envOfC qual (defScope st) s.heap.objs.size f cdv)) (envOfC qual (defScope st) s.heap.objs.size f cdv) (cxOf (L2N.CX P w) P w K mg base N qual (defScope st) f cdv A outer s H E).xe →
      Room k (A.deeper (envOfC qual (defScope st) s.heap.objs.size f cdv)) → (A.deeper (envOfC qual (defScope st) s.heap.objs.size f cdv)).guards = some [] →
      ∃ t : DS, PSs (cxOf (L2N.CX P w) P w K mg base N qual (defScope st) f cdv A outer s H E) (defBody st) (liftS K Z 0 t) ∧
        ∀ as Q, S as Q Ec → t (defEnds 0 Q) (as ++ List.replicate (N.length - ps.length) .un)) : FnX P w K mg base T (k + 1) f fd ps S := by
  obtain ⟨oc, od, kV, doc, pm, an, cdv, ct, osl, rfl, lk, hcd⟩ := Fn.ex
  refine ⟨len, nc, fun A outer s H args us vs Q E hr hg e0 hb rv ⟨F0, as, PP, Ec, ha, hS, hQ, hE⟩ => ?_⟩
  have al : as.length = ps.length := len as PP Ec hS
  have hl : vs.length = ps.length := ha.len.symm.trans al
  have hpl : ps.length ≤ N.length := by
    have := congrArg List.length sc.pre
    rw [List.length_take] at this
    omega
  have KX : K.In s.heap := e0.mod.kin.keeps fun b o e => (e0.bs b o e).1
  have noc := nc as PP Ec hS
  have cells : ∀ (i : Nat) (p : Bool) (xs : List PyData), as[i]? = some (.cel p xs) → i < 0 := fun i p xs e => absurd e (noc i p xs)
  refine codeAny_call_function hr.depth (KX _ _ lk) rfl sc.co sc.gen rfl (PySem.W.codeRec_of KX hcd) (hb _ _ _ _ (wpAny_newFunctionEnv_cells sc.kind (fun ⟨n, v⟩ hy => ?_) fun env he s1 y => ?_))
  · rcases sc.par n (List.of_mem_zip hy).1 with q | q
    · exact .inl q
    · exact .inr ⟨q, PySem.W.cellsFrom_some _ _ _ (.inl q)⟩
  · subst he
    have tk : L2N.Takes (cxOf (L2N.CX P w) P w K mg base N qual (defScope st) f cdv A outer s H E) (liftW K (entryZ T P w F0 H vs as) fun c _ => Ec c) := (L2N.takes_of rfl rfl rfl rfl).imp fun cls d σ2 H2 ⟨c, h1, h2, xc, g2, F2, env2, k2, h3⟩ => by
      subst h1 h2
      exact hE c F2 H2 h3 xc ⟨k2.oldF.1, k2.oldF.2, k2.fh, k2.newF, k2.frame.weak fun a o e _ i z => (by
        obtain ⟨p, xs, h1, h2⟩ := cellsAt_inv z
        exact noc i p xs h1), fun i p xs a h1 _ => absurd h1 (noc i p xs), .non⟩
    obtain ⟨t, ht, hq⟩ := hbody (Z := entryZ T P w F0 H vs as) Ec cdv A outer s H E tk (passes_of rfl) (hr.deeper _) hg
    have I : Inv (cxOf (L2N.CX P w) P w K mg base N qual (defScope st) f cdv A outer s H E) [] (start N vs) H s1 := inv_start sc hr.hd e0 hl rv y
    refine ⟨(e0.mod.nolimit.keeps fun b o e => (e0.bs b o e).1).keeps y.toInCall.keep, codeAny_func (wpAny_mono (ht.run [] s1 (start N vs) H { nx := fun _ H' => Q .non H', rt := Q } I ?_) (fun fl s' hs => ?_) fun e s' hs => hs)⟩
    · refine ⟨entryG T P w F0 H vs as, F0, _, _, entry_ok ha al hpl, hq as PP hS, ?_⟩
      exact .mk4 (.mk (fun env' σ' F' H' p _ k' => hQ _ _ _ _ _ p (post_of k' cells .non)) (fun _ _ _ _ p => p.elim) (fun _ _ _ _ p => p.elim) (fun r env' v σ' F' H' p _ k' r' => hQ _ _ _ _ _ p (post_of k' cells r'))) rfl
    · have fin : ∀ {σ' : L2.St} {H' : Hp} {v : V} {u : Value}, Inv (cxOf (L2N.CX P w) P w K mg base N qual (defScope st) f cdv A outer s H E) [] σ' H' s' → RelV v u → Q v H' → CE outer P w H s Q u s' :=
        fun {σ' H' v u} J r q => ⟨v, H', J.os, J.bare, J.base, J.hok, r, q⟩
      match fl, hs with
      | .ret u, ⟨v, σ', H', J, r, q⟩ => exact fin J r q
      | .next, ⟨σ', H', J, q⟩ => exact fin (v := V.non) (u := Value.none) J rfl q
      | .brk, ⟨_, _, _, q⟩ => exact q.elim
      | .cont, ⟨_, _, _, q⟩ => exact q.elim
end
/-- where nothing is refused, such a def is a plain one -/
theorem DnX.calm {P : Program} {w : World} {K : PySem.W.Frag} {mg : Str → Option Value} {base : Heap} {x : Str} {k : Nat} {ps : List Str} {S : DSpX} (D : DnX P w K mg base T x k ps S) : Dn P w K mg base T x k ps (fun as Q => S as Q fun _ => False) := by
  obtain ⟨⟨fd, G, hb⟩, h1, h2⟩ := D
  refine ⟨⟨fd, ⟨fun as Q h => G.len as Q _ h, fun A outer s H args us vs Q hr hA e0 bt rv ⟨F, as, P, a1, a2, a3⟩ => ?_⟩, hb⟩, h1, h2⟩
  refine codeAny_mono (G.go A outer s H args us vs Q (fun _ _ _ => False) hr hA e0 bt rv ⟨F, as, P, _, a1, a2, a3, fun _ _ _ z _ _ => z⟩) fun r s' h => ?_
  match r, h with
  | .error e, h =>
    obtain ⟨_, _, _, _, _, _, _, _, _, _, _, _, z⟩ := h
    exact z.elim
  | .ok (.ret u), h => exact h
  | .ok .next, h => exact h
  | .ok .brk, h => exact h
  | .ok .cont, h => exact h
theorem DnX.imp {P : Program} {w : World} {K : PySem.W.Frag} {mg : Str → Option Value} {base : Heap} {x : Str} {k : Nat} {ps : List Str} {S S' : DSpX} (D : DnX P w K mg base T x k ps S) (h : ∀ as Q E, S' as Q E → S as Q E) : DnX P w K mg base T x k ps S' := by
  obtain ⟨⟨fd, G, hb⟩, h1, h2⟩ := D
  exact ⟨⟨fd, ⟨fun as Q E q => G.len as Q E (h _ _ _ q), fun as Q E q => G.nc as Q E (h _ _ _ q), fun A outer s H args us vs Q E hr hA e0 bt rv ⟨F, as, P, Ec, a1, a2, a3⟩ => G.go A outer s H args us vs Q E hr hA e0 bt rv ⟨F, as, P, Ec, a1, h _ _ _ a2, a3⟩⟩, hb⟩, h1, h2⟩
def isxQ (d : PyData) (ds : List Str) (K : Bool → Prop) : Prop := match d with
  | .dict [(.none, .str c)] => K (ds.any (exSub c))
  | _ => False
theorem q_isx {c : Str} {ds : List Str} {K : Bool → Prop} : isxQ (exD c) ds K = K (ds.any (exSub c)) := rfl
abbrev dIsx (ds : List Str) (wa : DE) (env : List SD) (P : PyData → List SD → Prop) : Prop := wa env fun d env' => isxQ d ds fun b => P (.bool b) env'
def isvQ (d : PyData) (K : Bool → Prop) : Prop := match d with
  | .dict [(.none, .str _)] => K true
  | _ => False
abbrev dIsv (wa : DE) (env : List SD) (P : PyData → List SD → Prop) : Prop := wa env fun d env' => isvQ d fun b => P (.bool b) env'
section
variable {X : Cx} {a : Expr} {wa : DE} {p q2 pos : Pos} {es : List Expr} {ds : List Str}
theorem exc_inv {K : PySem.W.Frag} {F : Hp} {v : V} {c : Str} (r : DR K F v (exD c)) : ∃ b, v = .ref b ∧ F b = some (.ext (ExcAt (He.ga K c) b)) ∧ XcF K c := by
  cases r with
  | dct _ m => cases m
  | exc h x => exact ⟨_, rfl, h, x⟩
  | opq _ x => rcases x with x | ⟨_, x, _⟩ <;> cases x
theorem disx {x : Str} (hm : X.mg "isinstance" = none) (hx : X.mg x = some (.ref (He.ga X.K x))) (hd : exNames.contains x = true) (ha : PE X a (liftE X.K Z wa)) (hg : Gl X "isinstance" := by rfl) (hgx : Gl X x := by rfl) (hdx : (x == ("__debug__" : Str)) = false := by decide)
    (hs1 : starEach [a, .Name x q2] X.env = (false, eval a X.env) :: starEach [.Name x q2] X.env := by rfl) (hs2 : starEach [.Name x q2] X.env = (false, eval (.Name x q2) X.env) :: starEach [] X.env := by rfl)
    (hpl : (backTo pos (starEach [Expr.Name x q2] X.env)).any (·.1) = false := by rfl) : PE X (.Call (.Name "isinstance" p) [a, .Name x q2] [] pos) (liftE X.K Z (dIsx [x] wa)) :=
  PE.of (pe_callB call_isE1 hg hm (by decide +kernel) (pa_cons ha (pa_cons (pe_glob (v := .ref (He.ga X.K x)) hgx hx rfl hdx) pa_nil hs2) hs1) (by decide) (by decide) hs1 hpl) fun σ H Q ⟨g, F, env, P, k, w, q⟩ => by
    refine ⟨g, F, env, _, k, w, fun d env1 v F1 H1 p e1 k1 r1 => ?_⟩
    unfold isxQ at p
    split at p
    · rename_i c
      obtain ⟨b, rfl, hF, xc⟩ := exc_inv r1
      have hd' : x ∈ exNames := by simpa using hd
      exact ⟨b, _, _, _, _, rfl, .own _, k1.fh _ _ hF, xc.cls, xc.own x hd', by simpa using q _ env1 _ F1 H1 p e1 k1 (.bl _)⟩
    · exact p.elim
theorem disv (hm : X.mg "isinstance" = none) (hmv : X.mg "ValueError" = none) (ha : PE X a (liftE X.K Z wa)) (hg : Gl X "isinstance" := by rfl) (hgx : Gl X "ValueError" := by rfl)
    (hs1 : starEach [a, .Name "ValueError" q2] X.env = (false, eval a X.env) :: starEach [.Name "ValueError" q2] X.env := by rfl) (hs2 : starEach [.Name "ValueError" q2] X.env = (false, eval (.Name "ValueError" q2) X.env) :: starEach [] X.env := by rfl)
    (hpl : (backTo pos (starEach [Expr.Name "ValueError" q2] X.env)).any (·.1) = false := by rfl) : PE X (.Call (.Name "isinstance" p) [a, .Name "ValueError" q2] [] pos) (liftE X.K Z (dIsv wa)) :=
  PE.of (pe_callB call_isE1 hg hm (by decide +kernel) (pa_cons ha (pa_cons (pe_bltn (v := .ty "ValueError") hgx hmv (by decide +kernel) rfl (by decide) (by decide)) pa_nil hs2) hs1) (by decide) (by decide) hs1 hpl) fun σ H Q ⟨g, F, env, P, k, w, q⟩ => by
    refine ⟨g, F, env, _, k, w, fun d env1 v F1 H1 p e1 k1 r1 => ?_⟩
    unfold isvQ at p
    split at p
    · rename_i c
      obtain ⟨b, rfl, hF, xc⟩ := exc_inv r1
      exact ⟨b, _, _, _, _, rfl, .ty _, k1.fh _ _ hF, xc.cls, xc.ve, q _ env1 _ F1 H1 p e1 k1 (.bl _)⟩
    · exact p.elim
end
end DL

namespace DL
variable {T : List (PySem.Addr × PySem.Str)} {Z : Zx T}
open PySem PySem.Spec PyProof.Rows L2
open Evl (Ex)
section
variable {K : PySem.W.Frag} {g : Gx Z} {F : Hp} {env : List SD} {σ : L2.St} {H : Hp}
/-- no name's cell is at D -/
def NoNm (env : List SD) (σ : L2.St) (D : Addr) : Prop := ∀ (j : Nat) (p : Bool) (ys : List PyData), env[j]? = some (.cel p ys) → σ[j]? ≠ some (some (.ref D))
end
abbrev KB := List (Key × V)
def KeysAre (kvs : KB) (ks : List Int) : Prop := kvs.map (·.1) = ks.map Sum.inl ∧ ks.Nodup
def intQ (d : PyData) (P : Prop) : Prop := match d with
  | .int _ => P
  | _ => False
def dsetN {I : Type} (f : I → PyData → (I → PyData → Prop) → (I → Prop) → Prop) (i : I) : List PyData → List PyData → (List PyData → Prop) → Prop
  | [], acc, K => sortSetQ (.list acc) K
  | d :: r, acc, K => f i d (fun i' k => i' = i ∧ intQ k (acc.length ≤ 1000 ∧ dsetN f i r (acc ++ [k]) K)) fun i' => i' = i ∧ dsetN f i r acc K
/-- sealed: the items aren't walked by the kernel -/
inductive dsetQ {I : Type} (f : I → PyData → (I → PyData → Prop) → (I → Prop) → Prop) (i : I) (items acc : List PyData) (K : List PyData → Prop) : Prop
  | mk : dsetN f i items acc K → dsetQ f i items acc K
theorem dsetQ.out {I : Type} {f : I → PyData → (I → PyData → Prop) → (I → Prop) → Prop} {i : I} {items acc : List PyData} {K : List PyData → Prop} (h : dsetQ f i items acc K) : dsetN f i items acc K := by
  cases h with
  | mk h => exact h
section
variable {X : Cx} {tg iter test key a b : Expr} {wa wb wk : DE} {wi : DI} {wt : DT} {D r : Str}
/-- what stands of the dict in the course of the walk -/
structure Dst (K : PySem.W.Frag) (g : Gx Z) (F : Hp) (env : List SD) (σ : L2.St) (H : Hp) (iD : Nat) (A : Addr) (acc : List PyData) (kvs : KB) : Prop where
  ok : Ok K g F env σ H
  slot : σ[iD]? = some (some (.ref A))
  hF : F A = none
  hH : H A = some (.dK kvs)
  keys : ∃ (ks ns : List Int), KeysAre kvs ks ∧ acc = ns.map PyData.int ∧ (∀ m, m ∈ ks ↔ m ∈ ns) ∧ ks.length ≤ ns.length
  nw : NoNm env σ A
end
end DL

namespace DL
variable {T : List (PySem.Addr × PySem.Str)} {Z : Zx T}
open PySem PySem.Spec PyProof.Rows L2
open Evl (Ex)
section
variable {X : Cx}
/-- l.count(x): how many are equal -/
def rCountD (K : PySem.W.Frag) : V → List V → Hp → VK → Prop := fun x xs H Q => ∃ (a : Addr) (y : V) (d : PyData) (ds : List PyData), x = V.ref a ∧ xs = [y] ∧ Dp K H (V.ref a) (.list ds) ∧ Dp K H y d ∧
  SeqAt.shaped (.list ds) = true ∧ SeqAt.shaped d = true ∧ Q (.int (ds.countP (fun z => PyData.eqv z d) : Nat)) H
theorem mt_countD (hu : X.A.units + 65 < cLine) : MtR X "list.count" (rCountD X.K) := by
  intro pins s σ H x xs v us Q I rx rxs h
  obtain ⟨a, y, d, ds, rfl, rfl, hl, hy, sl, sd, q⟩ := h
  cases rx
  cases rxs with
  | cons ry rt =>
    rename_i uy ut
    cases rt
    obtain ⟨bs, r1⟩ := Dp.reads I d y uy hy ry
    have hxs : PyData.canLayAll0 ds = true := SeqAt.canLay_of_shaped sl
    have hroom : X.A.units + 1 + min (PyData.depthAll ds) d.depth < cLine := room_in_shaped sd hu
    cases hl with
    | lst hs ha =>
      obtain ⟨its, rv, ⟨⟨cls, dd, data, sls⟩, n, ho, hc, hdn, hdt⟩, hlen⟩ := I.list hs
      simp only at hc hdt
      subst hc hdt
      obtain ⟨as, h4⟩ := Dp.readsAll I ds _ its ha rv
      have hmap : its.map (SeqAt.readOf s.heap) = ds := SeqAt.readsAll_map ds its as hxs h4
      refine call_meets PySem.F.slot_list_count ⟨_, ho, rfl⟩ PySem.F.entry_list_count (PySem.F.args_list_count_2 _ _)
        (SeqAt.list_countAt a its.toArray n dd sls uy (fun u => PyData.eqv (SeqAt.readOf s.heap u) d)) ⟨ho, SeqAt.items_eqAt (vs := its.toArray) (show ReadsAll s.heap its.toArray.toList ds as from h4) r1 hxs (SeqAt.canLay_of_shaped sd) hroom, ?_⟩
      have ec : its.toArray.toList.countP (fun u => PyData.eqv (SeqAt.readOf s.heap u) d) = ds.countP fun z => PyData.eqv z d := by
        rw [← hmap, List.countP_map]
        rfl
      refine ⟨.int (ds.countP (fun z => PyData.eqv z d) : Nat), H, I.tok _, ⟨s.toks, ?_⟩, q⟩
      rw [← ec]
end
def cntN (ds : List PyData) (y : PyData) : Nat := ds.countP fun z => eqD z y
def cntQ (ds : List PyData) (y : PyData) (P : PyData → Prop) : Prop := (SeqAt.shaped (.list ds) = true ∧ SeqAt.shaped y = true) ∧ P (.int (cntN ds y : Nat))
def idxQ (ds : List PyData) (y : PyData) (P : PyData → Prop) : Prop := (SeqAt.shaped (.list ds) = true ∧ SeqAt.shaped y = true) ∧ match ds.findIdx? fun z => eqD z y with
  | some j => P (.int (j : Nat))
  | none => False
abbrev dMl (f : List PyData → PyData → (PyData → Prop) → Prop) (wa wb : DE) (env : List SD) (P : PyData → List SD → Prop) : Prop := wa env fun x env1 => lstQ x fun ds => wb env1 fun y env2 => f ds y fun z => P z env2
theorem cntN_eqv {ds : List PyData} {y : PyData} : (ds.countP fun z => PyData.eqv z y) = cntN ds y := by
  unfold cntN
  congr 1
  funext z
  rw [eqD_eq]
theorem lstQ_inv {x : PyData} {K : List PyData → Prop} (h : lstQ x K) : ∃ ds, x = .list ds ∧ K ds := by
  unfold lstQ at h
  split at h
  · exact ⟨_, rfl, h⟩
  · exact h.elim
section
variable {X : Cx} {a e : Expr} {wa we : DE} {apos cpos : Pos}
/-- a list's value is a list object -/
theorem isLst {K : PySem.W.Frag} {F H : Hp} {v : V} {ds : List PyData} (fh : Ex F H) (h : DR K F v (.list ds)) : tyV K "list" v H := by
  obtain ⟨a, xs, rfl, h1, _⟩ := h.inv_lst
  exact .inl ⟨rfl, xs, (h1.mono fh).sq⟩
theorem lift_ml {K : PySem.W.Frag} {r : V → List V → Hp → VK → Prop} {f : List PyData → PyData → (PyData → Prop) → Prop}
    (hf : ∀ (g : Gx Z) (F : Hp) (env : List SD) (σ : L2.St) (H : Hp) (ds : List PyData) (y : PyData) (vx vy : V) (P : PyData → Prop) (Q : VK), Ok K g F env σ H → DR K F vx (.list ds) → DR K F vy y → f ds y P → (∀ (z : PyData) (v : V), P z → DR K F v z → Q v H) → r vx [vy] H Q)
    {σ : L2.St} {H : Hp} {Q : VK} (h : liftE K Z (dMl f wa we) σ H Q) : tBM K "list" r (liftE K Z wa) (tCons (liftE K Z we) tNil) σ H Q := by
  obtain ⟨g, F, env, P, k, w, q⟩ := h
  refine ⟨g, F, env, _, k, w, fun x env1 v F1 H1 p e1 k1 r1 => ?_⟩
  obtain ⟨ds, rfl, p⟩ := lstQ_inv p
  refine ⟨isLst k1.fh r1, g, F1, env1, _, k1, p, fun y env2 v2 F2 H2 p2 e2 k2 r2 => ?_⟩
  exact hf g F2 env2 σ H2 ds y v v2 _ _ k2 (r1.mono e2) r2 p2 fun z u p3 r3 => q z env2 u F2 H2 p3 (e1.trans e2) k2 r3
theorem dcnt (hu : X.A.units + 65 < cLine) (ha : PE X a (liftE X.K Z wa)) (he : PE X e (liftE X.K Z we))
    (h1 : attributeBase a "count" X.env (eval a X.env) = eval a X.env := by rfl)
    (h2 : ((backTo cpos (starEach [e] X.env)).all (!·.1) && (backToKw cpos (keywordEach [] X.env)).all (·.1.isSome) && decide ([e].length + ([] : List Keyword).length + (if ([] : List Keyword).isEmpty then 0 else 1) < 30)) = true := by rfl)
    (h3 : (apos.endLine == cpos.line) = true := by rfl)
    (h4 : starEach [e] X.env = (false, eval e X.env) :: starEach [] X.env := by rfl) (h5 : (backTo cpos (starEach [] X.env)).any (·.1) = false := by rfl) :
    PE X (.Call (.Attribute a "count" apos) [e] [] cpos) (liftE X.K Z (dMl cntQ wa we)) :=
  PE.of (pe_bm PySem.F.plainAttrs_list PySem.F.slot_list_count PySem.F.type_list_count (mt_countD hu) ha (pa_cons he pa_nil h4) h1 h2 h3 h4 h5) fun σ H Q h => lift_ml (fun g F env σ H ds y vx vy P Q k rx ry f q => by
    obtain ⟨⟨s1, s2⟩, f⟩ := f
    obtain ⟨b, xs, rfl, _, _⟩ := rx.inv_lst
    exact ⟨b, vy, y, ds, rfl, rfl, DR.dp (drH k rx) (dict_of_shaped s1), DR.dp (drH k ry) (dict_of_shaped s2), s1, s2, by rw [cntN_eqv]; exact q _ _ f (.int _)⟩) h
theorem dlix (hu : X.A.units + 65 < cLine) (ha : PE X a (liftE X.K Z wa)) (he : PE X e (liftE X.K Z we))
    (h1 : attributeBase a "index" X.env (eval a X.env) = eval a X.env := by rfl)
    (h2 : ((backTo cpos (starEach [e] X.env)).all (!·.1) && (backToKw cpos (keywordEach [] X.env)).all (·.1.isSome) && decide ([e].length + ([] : List Keyword).length + (if ([] : List Keyword).isEmpty then 0 else 1) < 30)) = true := by rfl)
    (h3 : (apos.endLine == cpos.line) = true := by rfl)
    (h4 : starEach [e] X.env = (false, eval e X.env) :: starEach [] X.env := by rfl) (h5 : (backTo cpos (starEach [] X.env)).any (·.1) = false := by rfl) :
    PE X (.Call (.Attribute a "index" apos) [e] [] cpos) (liftE X.K Z (dMl idxQ wa we)) :=
  PE.of (pe_bm PySem.F.plainAttrs_list PySem.F.slot_list_index PySem.F.type_list_index (mt_indexD hu) ha (pa_cons he pa_nil h4) h1 h2 h3 h4 h5) fun σ H Q h => lift_ml (fun g F env σ H ds y vx vy P Q k rx ry f q => by
    obtain ⟨⟨s1, s2⟩, f⟩ := f
    obtain ⟨b, xs, rfl, _, _⟩ := rx.inv_lst
    split at f
    · rename_i j ej
      obtain ⟨hj, h2, h3⟩ := List.findIdx?_eq_some_iff_getElem.mp ej
      refine ⟨b, vy, y, ds, j, ds[j], rfl, rfl, DR.dp (drH k rx) (dict_of_shaped s1), DR.dp (drH k ry) (dict_of_shaped s2), s1, s2, List.getElem?_eq_getElem hj, by rw [← eqD_eq]; exact h2, fun m z' hm hz => ?_, q _ _ f (.int _)⟩
      obtain ⟨hm2, rfl⟩ := List.getElem?_eq_some_iff.mp hz
      rw [← eqD_eq]
      simpa using h3 m hm
    · exact f.elim) h
end
section
variable {X : Cx} {e : Expr} {we : DE} {apos pos p0 : Pos} {j0 : Nat}
end
end DL

namespace DL
variable {T : List (PySem.Addr × PySem.Str)} {Z : Zx T}
open PySem PySem.Spec PyProof.Rows L2
open Evl (Ex)
theorem _root_.L2H.RoomH.units {k : Nat} {A : Around} (r : L2H.RoomH k A) : A.units + 64 < cLine := by have := r.un; omega
theorem _root_.L2H.RoomH.u65 {k : Nat} {A : Around} (r : L2H.RoomH k A) : A.units + 65 < cLine := by have := r.un; omega
/-- as FnG, whatever is handled -/
structure FnB (P : Program) (w : World) (K : PySem.W.Frag) (mg : Str → Option Value) (base : Heap) (T : List (Addr × Str)) (k : Nat) (f : Addr) (fd : FuncData) (ps : List Str) (S : DSp) : Prop where
  len : ∀ as Q, S as Q → as.length = ps.length
  go : ∀ (A : Around) (outer : List Env) (s : Shared) (H : Hp) (args : Args) (us : List Value) (vs : List V) (Q : VK), L2H.RoomH k A → A.guards = some [] → Env0 P w K mg base A outer s H →
    BindsTo s fd args (ps.zip us) → Vals vs us → spD T K S vs H Q → codeAny (model P w) A (.call (.ref f) args) (CR CX0 outer P w H s Q E0) s
structure DnB (P : Program) (w : World) (K : PySem.W.Frag) (mg : Str → Option Value) (base : Heap) (T : List (Addr × Str)) (x : Str) (k : Nat) (ps : List Str) (S : DSp) : Prop where
  ex : ∃ fd, FnB P w K mg base T k (He.ga K x) fd ps S ∧ Binds K fd ps []
  glo : mg x = some (.ref (He.ga K x))
  kp : PySem.W.keepIn K (.ref (He.ga K x)) = true
section
variable {P : Program} {w : World} {K : PySem.W.Frag} {mg : Str → Option Value} {base : Heap}
end
section
variable {X : Cx} {k : Nat} {f : Addr} {fd : FuncData} {ps : List Str} {S : DSp} {x : Str} {p pos : Pos} {e : Expr} {es : List Expr} {was : DA}
end
end DL

namespace DL
variable {T : List (PySem.Addr × PySem.Str)} {Z : Zx T}
open PySem PySem.Spec PyProof.Rows L2
open Evl (Ex)
def keyS (e : Int × Value) : Str := match e.2 with | .str k _ => k | _ => Str.empty
def GoodS (w : World) (e : Int × Value) : Prop := ∃ k t, e.2 = Value.str k t ∧ e.1 = hashStr w k
/-- a set of the texts ys, each once -/
def SetS (w : World) (h : Heap) (a : Addr) (ys : List Str) : Prop :=
  ∃ ob es ep tb, h.get? a = some ob ∧ ob.ExactSet ∧ ob.data = .set es ep tb ∧ (∀ e ∈ es.toList, GoodS w e) ∧ (es.toList.map keyS).Perm ys ∧ ys.Nodup ∧
    es.size < scanBound ∧ tb.fits es.size = true ∧ Ris tb.place.toList ∧ (w.params.followText "set-order" = true ∨ tb.led = true)
section
variable {P : Program} {w : World} {h h' : Heap} {a : Addr} {ys : List Str}
theorem SetS.at (R : SetS w h a ys) (k : ∀ o, h.get? a = some o → h'.get? a = some o) : SetS w h' a ys := by
  obtain ⟨ob, es, ep, tb, ho, r⟩ := R
  exact ⟨ob, es, ep, tb, k ob ho, r⟩
theorem SetS.size (R : SetS w h a ys) : ys.length < scanBound := by
  obtain ⟨ob, es, ep, tb, _, _, _, _, pm, _, hb, _⟩ := R
  rw [← pm.length_eq, List.length_map, Array.length_toList]
  exact hb
end
section
variable {P : Program} {w : World} {A : Around} {E : Value → Shared → Prop} {s : Shared} {a : Addr} {ys : List Str}
end
end DL

namespace DL
variable {T : List (PySem.Addr × PySem.Str)} {Z : Zx T}
open PySem PySem.Spec PyProof.Rows L2
open Evl (Ex)
/-- each once -/
def dd : List Str → List Str → List Str
  | acc, [] => acc
  | acc, k :: r => dd (if k ∈ acc then acc else k :: acc) r
section
variable {P : Program} {w : World} {A : Around} {E : Value → Shared → Prop} {s : Shared}
end
end DL

namespace DL
variable {T : List (PySem.Addr × PySem.Str)} {Z : Zx T}
open PySem PySem.Spec PyProof.Rows L2
open Evl (Ex)
section
variable {X : Cx}
end
section
variable {X : Cx} {a : Expr} {wa : DE} {p p2 pos pos2 : Pos}
end
end DL

namespace DL
variable {T : List (PySem.Addr × PySem.Str)} {Z : Zx T}
open PySem PySem.Spec PyProof.Rows L2
open Evl (Ex)
section
variable {X : Cx} {a b e : Expr} {we wa wb : DE} {pos : Pos}
end
end DL

namespace DL
variable {T : List (PySem.Addr × PySem.Str)} {Z : Zx T}
open PySem PySem.Spec PyProof.Rows L2
open Evl (Ex)
section
variable {X : Cx} {a b e : Expr} {we wa wb : DE} {pos p p2 pos2 : Pos}
end
end DL

namespace DL
variable {T : List (PySem.Addr × PySem.Str)} {Z : Zx T}
open PySem PySem.Spec PyProof.Rows L2
open Evl (Ex)
section
variable {X : Cx}
theorem DpAll.len {K : PySem.W.Frag} {H : Hp} : ∀ {xs : List V} {ds : List PyData}, DpAll K H xs ds → xs.length = ds.length
  | [], [], _ => rfl
  | _ :: _, _ :: _, .cons _ t => by rw [List.length_cons, List.length_cons, DpAll.len t]
end
section
variable {X : Cx} {a : Expr} {wa : DE} {p pos : Pos}
end
end DL

namespace DL
variable {T : List (PySem.Addr × PySem.Str)} {Z : Zx T}
open PySem PySem.Spec PyProof.Rows L2
open Evl (Ex)
section
variable {X : Cx}
variable {e : Expr} {es : List Expr} {was : DA} {pos p : Pos}
end
end DL

namespace DL
variable {T : List (PySem.Addr × PySem.Str)} {Z : Zx T}
open PySem PySem.Spec PyProof.Rows L2
section
variable {fa : List He.Fa} {fn : List He.FnD} {K : PySem.W.Frag} {mg : Str → Option Value}
end
end DL

namespace DL
variable {T : List (PySem.Addr × PySem.Str)} {Z : Zx T}
open PySem PySem.Spec PyProof.Rows L2
open Evl (Ex)
section
variable {X : Cx} {pins : List (Addr × Obj)} {σ : L2.St} {H : Hp} {s : Shared}
theorem TqT.obj (I : Inv X pins σ H s) {a : Addr} {xs : List V} (h : TqT X.K H a xs) : ∃ o, s.heap.get? a = some o ∧ PlT o := by
  rcases h with ⟨o, h, p⟩ | ⟨o, _, _, h, p, _⟩
  · exact ⟨o, (I.hok a _ h).1, p⟩
  · exact ⟨o, I.kIn a o h, p⟩
end
section
variable {X : Cx}
end
section
variable {X : Cx} {a e : Expr} {wa we : DE} {apos cpos : Pos}
end
end DL

namespace DL
variable {T : List (PySem.Addr × PySem.Str)} {Z : Zx T}
open PySem PySem.Spec PyProof.Rows L2 PySem.W
open Evl (Ex)
section
variable {prog : Program} {w : World} {A : Around} {E : Value → Shared → Prop} {s : Shared}
end
section
variable {X : Cx}
end
section
variable {X : Cx} {a : Expr} {wa : DE} {p pos : Pos}
end
end DL

namespace DL
variable {T : List (PySem.Addr × PySem.Str)} {Z : Zx T}
open PySem PySem.Spec PyProof.Rows L2 PySem.W
open Evl (Ex)
def keyD : Key → PyData
  | .inl n => .int n
  | .inr x => .str x
abbrev KVD := List (List Key × PyData)
def atD (kvs : KVD) (k : List Key) : Option PyData := (kvs.find? fun p => decide (p.1 = k)).map (·.2)
def putD (kvs : KVD) (k : List Key) (d : PyData) : KVD := if (atD kvs k).isSome = true then kvs.map (fun p => if p.1 = k then (p.1, d) else p) else kvs ++ [(k, d)]
section
variable {K : PySem.W.Frag} {F : Hp}
theorem DicR.val {kvs : KVD} {xs : List (List Key × Addr × Value)} (r : DicR K F kvs xs) (k : List Key) : (atD kvs k = none ∧ atKey xs k = none) ∨ ∃ d p v, atD kvs k = some d ∧ atKey xs k = some p ∧ DR K F v d ∧ RelV v p.2 := by
  unfold DicR at r
  induction r with
  | nil => exact .inl ⟨rfl, rfl⟩
  | @cons p q ps qs h t ih =>
    obtain ⟨h1, _, v, h2, h3⟩ := h
    by_cases e : p.1 = k
    · exact .inr ⟨p.2, q.2, v, by simp [atD, List.find?_cons, e], by simp [atKey, List.find?_cons, ← h1, e], h2, h3⟩
    · have e' : ¬ q.1 = k := fun z => e (h1.trans z)
      have a : atD (p :: ps) k = atD ps k := by simp [atD, List.find?_cons, e]
      have b : atKey (q :: qs) k = atKey qs k := by simp [atKey, List.find?_cons, e']
      rw [a, b]
      exact ih
theorem DicR.put {kvs : KVD} {xs : List (List Key × Addr × Value)} (r : DicR K F kvs xs) (k : List Key) {b : Addr} {d : PyData} {v : V} {u : Value} (hb : TqT K F b (k.map kV)) (hd : DR K F v d) (hu : RelV v u) : DicR K F (putD kvs k d) (storedH xs k b u) := by
  have e : (atD kvs k).isSome = (atKey xs k).isSome := by
    rcases r.val k with ⟨e1, e2⟩ | ⟨_, _, _, e1, e2, _⟩ <;> rw [e1, e2] <;> rfl
  unfold putD storedH
  rw [e]
  by_cases q : (atKey xs k).isSome = true
  · rw [if_pos q, if_pos q]
    clear e q
    unfold DicR at r ⊢
    induction r with
    | nil => exact .nil
    | @cons p q ps qs h t ih =>
      rw [List.map_cons, List.map_cons]
      refine .cons ?_ ih
      obtain ⟨h1, h2, h3⟩ := h
      unfold putAt
      by_cases e : p.1 = k
      · rw [if_pos e, if_pos (h1.symm.trans e)]; exact ⟨h1, h2, v, hd, hu⟩
      · rw [if_neg e, if_neg (fun z => e (h1.trans z))]; exact ⟨h1, h2, h3⟩
  · rw [if_neg q, if_neg q]
    exact Paired.snoc r ⟨rfl, hb, v, hd, hu⟩
end
section
variable {X : Cx} {pins : List (Addr × Obj)} {σ : L2.St} {H : Hp} {s : Shared} {a b : Addr} {F : Hp} {kvs : KVD} {xs : List (List Key × Addr × Value)}
end
section
variable {K : PySem.W.Frag} {g : Gx Z} {F : Hp} {env : List SD} {σ : L2.St} {H : Hp}
end
section
variable {X : Cx} {e b : Expr} {we wb : DE} {m : Nat} {pos : Pos}
end
end DL

namespace DL
variable {T : List (PySem.Addr × PySem.Str)} {Z : Zx T}
open PySem PySem.Spec PyProof.Rows L2 PySem.W
open Evl (Ex)
section
variable {X : Cx}
section
variable {k0 : Nat} {a : Expr} {pos p0 : Pos} {x : Str} {wa : DE}
end
end
end DL

namespace DL
variable {T : List (PySem.Addr × PySem.Str)} {Z : Zx T}
open PySem PySem.Spec PyProof.Rows L2
open Evl (Ex)
section
variable {P : Program} {w : World} {K : PySem.W.Frag} {mg : Str → Option Value} {base : Heap}
end
end DL

namespace DL
variable {T : List (PySem.Addr × PySem.Str)} {Z : Zx T}
open PySem PySem.Spec PyProof.Rows L2
open Evl (Ex)
section
variable {X : Cx}
end
end DL

namespace DL
variable {T : List (PySem.Addr × PySem.Str)} {Z : Zx T}
open PySem PySem.Spec PyProof.Rows L2
open Evl (Ex)
section
variable {prog : Program} {w : World} {A : Around} {E : Value → Shared → Prop} {s : Shared}
/-- the next n items of a list's iterator -/
theorem items_of_list {j l : Addr} {xs : Array Value} (hj : l ≠ j) : ∀ (n k : Nat) (s : Shared) (R : List Value → Shared → Prop), s.heap.IsListIter j l k → s.heap.IsList l xs → k + n ≤ xs.size →
    (∀ h2, h2.IsListIter j l (k + n) → Heap.SameBut j s.heap h2 → R ((xs.toList.drop k).take n) { s with heap := h2 }) → wpAny (model prog w) A (draw (.ref j) n) R E s
  | 0, k, s, R, a, _, _, r => by
    show wpAny _ _ (pure []) R E s
    refine wpAny_pure ?_
    have := r s.heap a (Heap.SameBut.refl ..)
    rwa [List.take_zero] at this
  | n + 1, k, s, R, a, b, c, r => by
    have lt : k < xs.size := by omega
    show wpAny _ _ (pyNext (.ref j) >>= _) R E s
    refine wpAny_bind (wpAny_pyNext_list_item a b (x := xs[k]) (by simp [lt]) fun h3 a3 c3 => ?_)
    have b3 : h3.IsList l xs := by
      obtain ⟨ol, o1, o2⟩ := b
      exact ⟨ol, (c3.2 l hj).trans o1, o2⟩
    refine wpAny_bind (wpAny_holding (items_of_list hj n (k + 1) _ _ a3 b3 (by omega) fun h4 a4 c4 => wpAny_pure ?_))
    have dr : xs.toList.drop k = xs[k] :: xs.toList.drop (k + 1) := by
      rw [List.drop_eq_getElem_cons (by simpa using lt)]
      simp
    have q := r h4 (by rw [show k + (n + 1) = k + 1 + n by omega]; exact a4) (c3.trans c4)
    rwa [dr, List.take_succ_cons] at q
/-- a list is taken apart -/
theorem apart_list {l : Addr} {xs : Array Value} {ts : List (Bool × (Value → Sem Unit))} {R : Unit → Shared → Prop} (hh : A.handled = none) (b : s.heap.IsList l xs) (hn : ts.length = xs.size) (hs : ts.findIdx? (·.1) = none)
    (r : ∀ h2, Heap.ExtBut s.heap.objs.size s.heap h2 → wpAny (model prog w) A (assignInOrder (ts.map (·.2)) xs.toList) R E { s with heap := h2 }) : wpAny (model prog w) A (unpack (.ref l) ts) R E s := by
  have hj : l ≠ s.heap.objs.size := by
    obtain ⟨o, ho, _⟩ := id b
    exact Nat.ne_of_lt (Heap.lt_size ho)
  have bp : ∀ o, (s.heap.push o).IsList l xs := fun o => by
    obtain ⟨ol, o1, o2⟩ := id b
    exact ⟨ol, Heap.get?_push_of_some _ o1, o2⟩
  unfold unpack
  rw [hn, hs]
  refine wpAny_bind (wpAny_holding ?_)
  unfold unpackItems
  refine wpAny_bind ?_
  unfold notIterableAtAll
  refine wpAny_bind (wpAny_specialOf b.typeIs slot_list_iter.lookup ?_)
  refine wpAny_pure ?_
  simp only [Bool.false_eq_true, if_false]
  refine wpAny_bind (wpAny_holding (wpAny_pyIter_list b ?_))
  refine wpAny_bind (wpAny_holding (items_of_list hj xs.size 0 _ _ ⟨_, Heap.get?_push_size _ rfl, rfl, rfl⟩ (bp _) (by omega) fun h2 a2 c2 => ?_))
  have all : List.take xs.size (List.drop 0 xs.toList) = xs.toList := by
    rw [List.drop_zero]
    exact List.take_of_length_le (by simp)
  rw [all, if_neg (by simp)]
  have b2 : h2.IsList l xs := by
    obtain ⟨ol, o1, o2⟩ := bp { cls := .type "list_iterator", data := .fields #[.ref l, .int 0 0] }
    exact ⟨ol, (c2.2 l hj).trans o1, o2⟩
  refine wpAny_bind (wpAny_holding (wpAny_pyNext_list_end hh a2 b2 (by simp) fun h3 c3 => ?_))
  simp only [Option.isSome_none, Bool.false_eq_true, if_false]
  exact wpAny_pure (r h3 fun c o n e => c3 c o n (c2.extBut c o n (Heap.get?_push_of_some _ e)))
end
section
variable {X : Cx} {es : List Expr} {pos : Pos}
def gLst (K : PySem.W.Frag) (n : Nat) (t : TGs) : TG := fun v σ H Q => ∃ a xs, v = .ref a ∧ SqL K H a xs ∧ xs.length = n ∧ t xs σ H Q
theorem pg_lst {k : Nat} {t : TGs} {n : Nat} (hc : X.calm = true) (h : PGs X es t) (hn : (assignEach es X.env).length = n) (hst : (assignEach es X.env).findIdx? (·.1) = none) : PG X (.Tuple es k pos) (gLst X.K n t) := by
  refine ⟨fun pins s σ H v u Q I r hw => ?_⟩
  obtain ⟨a, xs, e1, hq, hl, hw⟩ := hw
  subst e1
  cases r
  obtain ⟨its, rv, pl, hz⟩ := I.list hq
  rw [assign_Tuple]
  refine wpAny_bind (wpAny_standAt (apart_list (I.ok.hd hc) pl.isList (by simp [hn, ← hl, rv.length]) hst fun h' hx => ?_))
  have I1 : Inv X pins σ H { s with heap := h' } := I.kept (t' := s.toks) fun b o e => hx b o (Nat.ne_of_lt (Heap.lt_size e)) e
  exact h.run pins _ σ H xs _ Q I1 (by simpa using rv) hw
theorem pg_or {e : Expr} {t t' : TG} (h : PG X e t) (h' : PG X e t') : PG X e (fun v σ H Q => t v σ H Q ∨ t' v σ H Q) := ⟨fun pins s σ H v u Q I r q => q.elim (h.run pins s σ H v u Q I r) (h'.run pins s σ H v u Q I r)⟩
/-- the items of a tuple or a list -/
def seqQ (d : PyData) (K : List PyData → Prop) : Prop := match d with
  | .tuple ds => K ds
  | .list ds => K ds
  | _ => False
def dgS (n : Nat) (t : DGs) (d : PyData) (env : List SD) (P : List SD → Prop) : Prop := seqQ d fun ds => t ds env P
theorem gseq {k n : Nat} {t : DGs} (hl : GLen t n) (hc : X.calm = true) (h : PGs X es (liftGs X.K Z t)) (hn : (assignEach es X.env).length = n := by rfl) (hst : (assignEach es X.env).findIdx? (·.1) = none := by rfl) : PG X (.Tuple es k pos) (liftG X.K Z false (dgS n t)) :=
  PG.of (pg_or (pg_tup hc h hn hst) (pg_lst hc h hn hst)) fun v σ H Q ⟨g, F, env, d, P, k, r, w, q⟩ => by
    have r := r.non
    unfold dgS seqQ at w
    split at w
    · rename_i ds
      obtain ⟨a, xs, rfl, h1, h2⟩ := r.inv_tup
      exact .inl ⟨a, xs, rfl, Evl.ex_t k.fh h1, h2.length.trans (hl _ _ _ w).1, g, F, env, _, P, k, h2, w, q⟩
    · rename_i ds
      obtain ⟨a, xs, rfl, h1, h2⟩ := r.inv_lst
      exact .inr ⟨a, xs, rfl, (h1.mono k.fh).sq, h2.length.trans (hl _ _ _ w).1, g, F, env, _, P, k, h2, w, q⟩
    · exact w.elim
end
end DL

namespace DL
variable {T : List (PySem.Addr × PySem.Str)} {Z : Zx T}
open PySem PySem.Spec PyProof.Rows L2
open Evl (Ex)

section
variable {M : Model} {A : Around} {E1 : Value → Shared → Prop} {s : Shared} {B : Heap} {env : Env} {outer : List Env} {L C a : Addr} {Zp : Obj → Prop} {Q : Unit → Shared → Prop}
end
section
variable {X : Cx} {pins : List (Addr × Obj)} {σ : L2.St} {H : Hp} {s : Shared}
end
section
variable {X : Cx} {elt tg iter : Expr} {ifs : List Expr} {scope : Scope} {own : List (Str × Nat)} {pos : Pos} {wi : DI} {t : CT} {c : DT} {we : DE} {m : Nat} {I S : Type} {dec : List SD → Option (I × S)} {emb : I → S → List SD} {qb : PyData → I → S → (I → S → Prop) → (PyData → I → S → Prop) → Prop}
end
section
variable {P : Program} {w : World} {K : PySem.W.Frag} {mg : Str → Option Value} {base : Heap}
end
end DL

namespace DL
open PySem PySem.Spec PyProof.Rows L2
section
variable {P : Program} {w : World} {κ : Type} [DecidableEq κ] {kd : KeyKind P w κ}
section
variable {A : Around} {E : Value → Shared → Prop} {s : Shared}
end
abbrev hashT (kd : KeyKind P w κ) (p : Addr × List κ) : Int := tupleKeyHash kd p.2
def rowT (kd : KeyKind P w κ) (p : Addr × List κ) : Int × Value := (hashT kd p, .ref p.1)
/-- a set of tuples: each by its place and its parts -/
structure TSet (kd : KeyKind P w κ) (h : Heap) (a : Addr) (L : List (Addr × List κ)) (es : Array (Int × Value)) (ep : Nat) (t : SetTable) : Prop where
  ob : ∃ o, h.get? a = some o ∧ o.ExactSet ∧ o.data = .set es ep t
  ent : es.toList = L.map (rowT kd)
  tab : TabOk t (L.map (hashT kd))
  once : (L.map (·.2)).Nodup
  tup : ∀ p ∈ L, IsTupleKey kd h p.2 p.1
  led : w.params.followText "set-order" = true ∨ t.led = true
  room : L.length * 5 < t.mask * 3
  few : L.length < 64
section
variable {A : Around} {E : Value → Shared → Prop} {s : Shared} {a : Addr} {L : List (Addr × List κ)} {es : Array (Int × Value)} {ep : Nat} {t : SetTable}
theorem ent_size (e : es.toList = L.map (rowT kd)) : es.size = L.length := by
  rw [← Array.length_toList, e, List.length_map]
theorem tab_fits {t : SetTable} {hs : List Int} {n : Nat} (T : t.dummies = #[]) (h1 : t.place.size = n) (h2 : n ≤ t.mask) : t.fits n = true := by
  unfold SetTable.fits SetTable.fill
  rw [T, h1]
  simp only [beq_self_eq_true, Bool.true_and, decide_eq_true_eq]
  exact h2
theorem TSet.fits (R : TSet kd s.heap a L es ep t) : t.fits es.size = true := by
  have z1 := R.tab.sz
  have z2 := R.room
  rw [List.length_map] at z1
  rw [ent_size R.ent]
  exact tab_fits (hs := []) R.tab.dm z1 (by omega)
theorem TSet.place (R : TSet kd s.heap a L es ep t) : t.place.toList.length = L.length := by
  have z := R.tab.sz
  rw [List.length_map] at z
  rw [Array.length_toList, z]
end
/-- each once -/
def d1 {α : Type} [DecidableEq α] (acc : List α) (k : α) : List α := if k ∈ acc then acc else k :: acc
section
variable {A : Around} {E : Value → Shared → Prop} {s : Shared}
end
end
section
variable {X : Cx} {T : List (PySem.Addr × PySem.Str)} {Z : Zx T}
variable {a : Expr} {wa : DE} {pos p p2 pos2 : Pos}
end
end DL

namespace DL
variable {T : List (PySem.Addr × PySem.Str)} {Z : Zx T}
open PySem PySem.Spec PyProof.Rows L2 PySem.W
open Evl (Ex)
section
variable {P : Program} {w : World} {A : Around} {E : Value → Shared → Prop} {s : Shared}
end
section
variable {X : Cx}
variable {a : Expr} {wa : DE} {p pos : Pos}
end
section
variable {X : Cx} {e e2 : Expr} {wi we : DE} {m : Nat} {pos : Pos}
end
end DL

namespace DL
variable {T : List (PySem.Addr × PySem.Str)} {Z : Zx T}
open PySem PySem.Spec PyProof.Rows L2 PySem.W
open Evl (Ex)
section
variable {P : Program} {w : World} {A : Around} {E : Value → Shared → Prop} {s : Shared} {a : Addr}
end
section
variable {X : Cx}
variable {a : Expr} {wa : DE} {p p2 pos pos2 : Pos}
end
end DL

namespace DL
variable {T : List (PySem.Addr × PySem.Str)} {Z : Zx T}
open PySem PySem.Spec PyProof.Rows L2 PySem.W
open Evl (Ex)
section
variable {X : Cx} {a b c : Expr} {was : DA} {m : Nat} {pos : Pos}
end
end DL

namespace DL
variable {T : List (PySem.Addr × PySem.Str)} {Z : Zx T}
open PySem PySem.Spec PyProof.Rows L2 PySem.W
open Evl (Ex)
inductive Kx where
  | it
  | ix (b : Kx) (i : Nat)
  | hd (b : Kx) (n : Nat)
  | two (a b : Kx)
def Kx.val : Kx → PyData → Option PyData
  | .it, d => some d
  | .ix b i, d => match b.val d with
    | some (.tuple ds) => ds[i]?
    | _ => none
  | .hd b n, d => match b.val d with
    | some (.tuple ds) => if ds.length ≤ 1000 then some (.tuple (ds.take n)) else none
    | _ => none
  | .two a b, d => match a.val d, b.val d with
    | some x, some y => some (.tuple [x, y])
    | _, _ => none
inductive KbE (x : Str) : Expr → Kx → Prop
  | it {p : Pos} : KbE x (.Name x p) .it
  | ix {e : Expr} {b : Kx} {i j : Nat} {p pos : Pos} : KbE x e b → i < 1000 → KbE x (.Subscript e (.Constant (.int (i : Int)) j p) pos) (.ix b i)
  | hd {e : Expr} {b : Kx} {n j : Nat} {p p2 pos : Pos} : KbE x e b → n < 1000 → KbE x (.Subscript e (.Slice none (some (.Constant (.int (n : Int)) j p)) none p2) pos) (.hd b n)
  | two {e f : Expr} {a b : Kx} {x1} {pos : Pos} : KbE x e a → KbE x f b → (∀ env, backTo pos (starEach [e, f] env) = [(false, eval e env), (false, eval f env)]) → KbE x (.Tuple [e, f] x1 pos) (.two a b)
/-- all is kept, the value reads as d -/
def KpR (d : PyData) (s : Shared) (v : Value) (s' : Shared) : Prop := ∃ h' tk, s' = { s with heap := h', toks := tk } ∧ (∀ b o, s.heap.get? b = some o → h'.get? b = some o) ∧ ∃ as, Reads h' v d as
theorem KpR.trans {d : PyData} {s s' s'' : Shared} {v : Value} (k : ∃ h' tk, s' = { s with heap := h', toks := tk } ∧ (∀ b o, s.heap.get? b = some o → h'.get? b = some o)) (r : KpR d s' v s'') : KpR d s v s'' := by
  obtain ⟨h', tk, rfl, k⟩ := k
  obtain ⟨h2, tk2, rfl, k2, r⟩ := r
  exact ⟨h2, tk2, rfl, fun b o e => k2 b o (k b o e), r⟩
theorem KpR.kp {d : PyData} {s s' : Shared} {v : Value} (r : KpR d s v s') : ∃ h' tk, s' = { s with heap := h', toks := tk } ∧ (∀ b o, s.heap.get? b = some o → h'.get? b = some o) := by
  obtain ⟨h2, tk2, rfl, k2, r⟩ := r
  exact ⟨h2, tk2, rfl, k2⟩
theorem reads_tup {h : Heap} {v : Value} {ds : List PyData} {as : List Addr} (r : Reads h v (.tuple ds) as) : ∃ (a : Addr) (vs : List Value) (as' : List Addr), v = .ref a ∧ IsTup h a vs.toArray ∧ ReadsAll h vs ds as' := by
  cases r with
  | tuple h1 h2 h3 h4 => exact ⟨_, _, _, rfl, ⟨_, h1, h2, _, by rw [h3]⟩, h4⟩
section
variable {P : Program} {w : World} {A : Around} {env : Env} {x : Str} {v : Value} {m : Str → Option Value}
end
end DL

namespace DL
variable {T : List (PySem.Addr × PySem.Str)} {Z : Zx T}
open PySem PySem.Spec PyProof.Rows L2 PySem.W
open Evl (Ex)
section
variable {X : Cx} {pins : List (Addr × Obj)} {σ : L2.St} {H : Hp} {s : Shared}
/-- what the making of a lambda does to the abstract heap -/
structure Grown (T : List (Addr × Str)) (H H1 : Hp) : Prop where
  sty : ∀ b o, H b = some o → Sty o (H1 b)
  tab : LamX.Tabs T H1
end
section
variable {K : PySem.W.Frag} {g : Gx Z} {F F' : Hp} {env : List SD} {σ : L2.St} {H H1 : Hp}
theorem Ok.grown (k : Ok K g F env σ H) (e : Grown T H H1) : Ok K g F env σ H1 where
  len := k.len
  fh := fun a o q => (e.sty a o (k.fh a o q)).same fun ps z => k.oldF.2 a ps (by rw [q, z])
  dat := k.dat
  cel := fun i p xs q => by
    obtain ⟨a, vs, h1, h2, h3, h4, h5⟩ := k.cel i p xs q
    exact ⟨a, vs, h1, h2, (e.sty _ _ h3).lst, h4, h5⟩
  sep := k.sep
  pin := k.pin
  frame := ⟨fun a o q n => (k.frame.stay a o q n).trans fun u hu => e.sty a u hu, e.tab⟩
  newF := k.newF
  oldF := k.oldF
  prot := fun a o q => by
    obtain ⟨h1, h2, h3⟩ := k.prot a o q
    exact ⟨(e.sty _ _ h1).same (g.pl a o q), h2, h3⟩
  dic := k.dic.keep (Ex.refl F) (fun _ _ _ z => z) fun a xs h n => ⟨n, (e.sty _ _ h).ext.trans h.symm⟩
theorem ResOk.grown {v : V} {r : SD} (k : Ok K g F env σ H) (e : Grown T H H1) (h : ResOk K g F env σ H v r) : ResOk K g F env σ H1 v r := by
  cases r with
  | un => exact h
  | dat d => exact h
  | dic kvs => exact h
  | cel b xs =>
    obtain ⟨a, us, h1, h2, h3, h4, h5, h6⟩ := h
    exact ⟨a, us, h1, h2, (e.sty _ _ h3).lst, h4, h5, h6⟩
end
end DL

namespace DL
variable {T : List (PySem.Addr × PySem.Str)} {Z : Zx T}
open PySem PySem.Spec PyProof.Rows L2 PySem.W
open Evl (Ex)
/-- the scope of a lambda of the one parameter x -/
structure LamK (scope : Scope) (x : Str) : Prop where
  kind : scope.kind = .function
  co : scope.isCoroutine = false
  gen : scope.isGenerator = false
  loc : scope.names.lookup x = some .local
  nocell : ∀ y ∈ scope.names, y.2 ≠ .cell
section
variable {P : Program} {w : World} {A : Around} {s : Shared}
end
section
variable {prog : Program} {w : World} {A : Around} {E : Value → Shared → Prop} {s : Shared}
end
end DL

namespace DL
variable {T : List (PySem.Addr × PySem.Str)} {Z : Zx T}
open PySem PySem.Spec PyProof.Rows L2 PySem.W
open Evl (Ex)
/-- where a def makes its lambdas -/
def LamC (base : Heap) (mg : Str → Option Value) (T : List (Addr × Str)) (cdv : Value) (q : Str) : Prop :=
  ∃ c P, cdv = .ref c ∧ LamX.TabB base mg c P ∧ (P, q ++ "<lambda>") ∈ T ∧ ∀ p ∈ T, p.1 = P → p.2 = q ++ "<lambda>"
section
variable {X : Cx} {pins : List (Addr × Obj)} {σ : L2.St} {H : Hp} {s : Shared}
end
section
variable {X : Cx} {a : Expr} {wa : DE} {p pos lpos kpos : Pos} {params : Arguments} {body : Expr} {scope : Scope} {x : Str}
end
end DL

namespace DL
variable {T : List (PySem.Addr × PySem.Str)} {Z : Zx T}
open PySem PySem.Spec PyProof.Rows L2
open Evl (Ex)
/-- the defs that make lambdas, with the lambda's qualified name -/
class LamB (K : PySem.W.Frag) (base : Heap) (mg : Str → Option Value) (T : List (Addr × Str)) (lam : List ((Str × Option Str) × Str)) : Prop where
  out : ∀ p ∈ lam, ∃ c P, tabX K p.1 = some (c, P) ∧ LamX.TabB base mg c P ∧ (P, p.2) ∈ T
  uni : ∀ p ∈ T, ∀ q ∈ T, p.1 = q.1 → p.2 = q.2
theorem tabIn_code {K : PySem.W.Frag} {x : Str × Option Str} {c P : Addr} {oc : Value} {od : Option Addr} {fd : FuncData} {osl : Array (Option Value)} (h : tabX K x = some (c, P)) (lk : K.lookup (He.fAd K x) = some ⟨oc, od, .func fd, osl⟩) : fd.code = .ref c := by
  unfold tabX at h
  simp only [lk] at h
  split at h
  · rename_i c2 hc
    split at h
    · split at h
      · cases h
        exact hc
      · cases h
    · cases h
  · cases h
section
variable {P : Program} {w : World} {K : PySem.W.Frag} {mg : Str → Option Value} {base : Heap}
theorem law_dataT {mb : Str → Option Value} {k n : Nat} {fa a : Addr} {fd : FuncData} {x : Str} {s₁ : Shared} {vs : List Value} {ns : List Int} {cs : List (Addr × Addr)}
    (KX : K.In s₁.heap) (hns : s₁.heap.Ns mainGlobals mg) (hb : s₁.heap.Ns builtinsNs mb) (hbb : ∀ x : Str, x ≠ "__name__" → mb x = bootBuiltins x) (hlim : s₁.heap.NoLimit) (hgn : s₁.gens = #[])
    (hT : ∀ p ∈ cs, s₁.heap.get? p.2 = some { cls := .none, data := .fields #[] }) (nT : ∀ p ∈ cs, K.lookup p.2 = none) (C : ∀ p ∈ cs, PySem.W.CodeHd s₁.heap p.1 p.2)
    (hbm : ∃ (bm : Addr) (ob : Obj), mg "__builtins__" = some (.ref bm) ∧ bm ≠ builtinsNs ∧ s₁.heap.get? bm = some ob ∧ ob.cls = .type "module" ∧ ob.dict = some builtinsNs ∧ ob.data = .plain)
    (ha : s₁.heap.get? a = some { cls := .type "list", data := .seq vs.toArray }) (hi : IntsAre vs ns) (hn : ns.length ≤ n) (hz : n ≤ sizeLine) (hr : Room k callerA)
    (hsys : SysD s₁.heap) (hTT : ∀ q ∈ T, ∃ p ∈ cs, p.2 = q.1) (Fn : ∀ base : Heap, K.In base → base.Ns mainGlobals mg → SysD base → (∀ p ∈ cs, LamX.TabB base mg p.1 p.2) → FnG P w K mg base T k fa fd [x] (lawS n)) (hbind : ∀ (s : Shared) (u : Value), BindsTo s fd ⟨[u], []⟩ [(x, u)]) :
    codeAny (model P w) callerA (.call (.ref fa) ⟨[.ref a], []⟩) (fun r s' => r = .ok (.ret (.bool true)) ∧ OldK s₁.heap s'.heap ∧ s'.os = s₁.os ∧ AllBare s'.gens) s₁ := by
  have rv := vals_ints hi
  have lenV := hi.length
  have hl : ns.length ≤ sizeLine := Nat.le_trans hn hz
  have memT : ∀ p ∈ cs, p.2 ∈ cs.map (·.2) := fun p hp => List.mem_map.mpr ⟨p, hp, rfl⟩
  have isT : ∀ b : Addr, b ∈ cs.map (·.2) → s₁.heap.get? b = some { cls := .none, data := .fields #[] } := fun b hb => by
    obtain ⟨p, hp, rfl⟩ := List.mem_map.mp hb
    exact hT p hp
  have aT : a ∉ cs.map (·.2) := fun z => by
    have q := isT a z
    rw [ha] at q
    cases (show Data.seq vs.toArray _ = Data.fields #[] from congrArg Obj.data (Option.some.inj q))
  -- F: the script's list, or nothing; the tables stand beside it
  have core : ∀ F : Hp, Only F → RdL K F a (ns.map V.int) → HOk P w F s₁.heap → (∀ b, F b ≠ none → b = a) → (F a ≠ none → K.lookup a = none) →
      codeAny (model P w) callerA (.call (.ref fa) ⟨[.ref a], []⟩) (fun r s' => r = .ok (.ret (.bool true)) ∧ OldK s₁.heap s'.heap ∧ s'.os = s₁.os ∧ AllBare s'.gens) s₁ := by
    intro F fO hS fok hA hK
    obtain ⟨H, eH⟩ : ∃ H : Hp, H = fun b => if b ∈ cs.map (·.2) then some (.tbl #[]) else F b := ⟨_, rfl⟩
    have atT : ∀ b, b ∈ cs.map (·.2) → H b = some (.tbl #[]) := fun b z => by rw [eH]; exact if_pos z
    have atF : ∀ b, b ∉ cs.map (·.2) → H b = F b := fun b z => by rw [eH]; exact if_neg z
    have exF : Ex F H := fun b u e => by rw [atF b fun z => aT (by rw [← hA b (by rw [e]; simp)]; exact z)]; exact e
    have hok : HOk P w H s₁.heap := fun b u e => by
      by_cases z : b ∈ cs.map (·.2)
      · rw [atT b z] at e
        cases e
        exact isT b z
      · rw [atF b z] at e
        exact (fok b u e).stay (fun c v _ q => q) (fun c q => exF _ _ q) fun c xs q => exF _ _ q
    have hN : ∀ b, H b ≠ none → b = a ∨ b ∈ cs.map (·.2) := fun b q => by
      by_cases z : b ∈ cs.map (·.2)
      · exact .inr z
      · rw [atF b z] at q
        exact .inl (hA b q)
    have noD : ∀ {b : Addr} {o : Obj}, s₁.heap.get? b = some o → (∀ vs n, o.data ≠ .seq vs n) → o.data ≠ .fields #[] → H b = none := fun {b o} e h1 h2 => by
      cases q : H b with
      | none => rfl
      | some u =>
        rcases hN b (by rw [q]; simp) with e' | e'
        · rw [e', ha] at e
          cases e
          exact (h1 _ _ rfl).elim
        · rw [isT b e'] at e
          cases e
          exact (h2 rfl).elim
    have noA : ∀ {b : Addr} {o : Obj} {es : Array DictEntry} {ep : Nat}, s₁.heap.get? b = some o → o.data = .dict es ep → H b = none := fun {b o es ep} e d =>
      noD e (fun vs n z => by rw [d] at z; cases z) fun z => by rw [d] at z; cases z
    have nsK : ∀ {b : Addr} {m : Str → Option Value}, s₁.heap.Ns b m → (hidT s₁.heap H).Ns b m := fun {b m} ⟨o, es, ep, e, d, r⟩ => ⟨o, es, ep, hidT_get e (noA e d), d, r⟩
    have hKb : K.In (hidT s₁.heap H) := fun b o e => hidT_get (KX b o e) (by
      cases q : H b with
      | none => rfl
      | some u =>
        rcases hN b (by rw [q]; simp) with e' | e'
        · rw [e'] at e q
          rw [atF a aT] at q
          rw [hK (by rw [q]; simp)] at e
          cases e
        · obtain ⟨p, hp, ep⟩ := List.mem_map.mp e'
          rw [← ep, nT p hp] at e
          cases e)
    have hM : Mod K mg (hidT s₁.heap H) := ⟨hKb, nsK hns, ⟨mb, nsK hb, hbb⟩, let ⟨mc, h1, h2⟩ := hlim; ⟨mc, nsK h1, h2⟩⟩
    have TB : ∀ p ∈ cs, LamX.TabB (hidT s₁.heap H) mg p.1 p.2 := fun p hp => by
      have hTp := hT p hp
      have neG : ∀ {b : Addr} {ob : Obj}, s₁.heap.get? b = some ob → ob.data = .plain → b ≠ mainGlobals ∧ b ≠ p.2 := fun {b ob} e d => by
        constructor
        · intro z
          obtain ⟨o, es, ep, e', hd, _⟩ := hns
          rw [z, e'] at e
          cases e
          rw [hd] at d
          cases d
        · intro z
          rw [z, hTp] at e
          cases e
          cases d
      refine ⟨?_, ?_, fun z => ?_⟩
      · obtain ⟨o, us, file, tf, flags, tg, inF, text, tt, e1, r1, r2, r3, r⟩ := C p hp
        exact ⟨o, us, file, tf, flags, tg, inF, text, tt, hidT_get e1 (noD e1 (fun vs n z => by rw [r2] at z; cases z) fun z => by rw [r2] at z; cases z; simp at r3), r1, r2, r3, r⟩
      · obtain ⟨bm, ob, b1, b2, b3, b4, b5, b6⟩ := hbm
        obtain ⟨n1, n2⟩ := neG b3 b6
        exact ⟨bm, ob, b1, b2, n1, n2, hidT_get b3 (noD b3 (fun vs n z => by rw [b6] at z; cases z) fun z => by rw [b6] at z; cases z), b4, b5, b6⟩
      · obtain ⟨o, es, ep, e, hd, _⟩ := hns
        rw [z, hTp] at e
        cases e
        cases hd
    have e0 : Env0 P w K mg (hidT s₁.heap H) callerA [] s₁ H := ⟨rfl, hM, fun b o e => of_hidT e, Nat.le_of_eq (hidT_size _ _), trivial, fun b hb => absurd (show b ∈ ([] : List Addr) from hb) (by simp), hok, .of_eq hgn⟩
    have goal : spD T K (lawS n) [.ref a] H (fun v _ => v = .bl true) := by
      refine ⟨F, [.dat (.list (ns.map .int))], fun r _ => r = .dat (.bool true), args_dat exF (fun q hq => ?_) (fun b ps z => by rcases fO b with y | ⟨o, xs, y⟩ <;> rw [y] at z <;> cases z) (ds := [.list (ns.map .int)]) (.one (.lst hS (drs_ints ns))), ⟨⟨ns, rfl, hn⟩, fun _ => rfl⟩, fun r as' v F' H' p po => ?_⟩
      · obtain ⟨p, hp, e⟩ := hTT q hq
        rw [← e]
        exact LamX.TabS.nil (atT _ (memT p hp))
      · subst p
        exact DR.inv_bool po.res
    refine codeAny_mono ((Fn _ hKb (nsK hns) (let ⟨o, es, ep, e, d⟩ := hsys; ⟨o, es, ep, hidT_get e (noA e d), d⟩) TB).go callerA [] s₁ H ⟨[.ref a], []⟩ [.ref a] [.ref a] _ hr rfl e0 (hbind s₁ (.ref a)) (.cons rfl .nil) goal) fun r s' h => ?_
    match r, h with
    | .error e, h => exact h.elim
    | .ok .next, h => exact h.elim
    | .ok .brk, h => exact h.elim
    | .ok .cont, h => exact h.elim
    | .ok (.ret u), ⟨v, H', os, bare, un, hok', r', q⟩ =>
      have q' : v = .bl true := q
      subst q'
      obtain rfl : u = Value.bool true := r'
      have key : ∀ b o, b ∉ cs.map (·.2) → s₁.heap.get? b = some o → s'.heap.get? b = some o := fun b o nb e => by
        cases q : H b with
        | none => exact un.keep b o e q (by intro z; exact absurd (show b ∈ ([] : List Addr) from z) (by simp)) (by simp)
        | some u =>
          have q' := q
          rw [atF b nb] at q'
          rcases fO b with z | ⟨ob, xs, z⟩
          · rw [q'] at z; cases z
          · rw [q'] at z
            cases z
            have z2 := un.frzs b ob _ q
            obtain ⟨e1, _⟩ := hok b _ q
            obtain ⟨e2, _⟩ := hok' b _ z2
            rw [e] at e1; cases e1
            exact e2
      have grown : ∀ p ∈ cs, ∃ more : Array Value, s'.heap.get? p.2 = some { cls := .none, data := .fields more } := fun p hp => by
        obtain ⟨more, z⟩ := un.tbls p.2 #[] (atT _ (memT p hp))
        exact ⟨_, hok' p.2 _ z⟩
      refine ⟨rfl, ⟨fun b o e => ?_, fun b o e => ?_⟩, os, bare⟩
      · by_cases hb : b ∈ cs.map (·.2)
        · obtain ⟨p, hp, ep⟩ := List.mem_map.mp hb
          obtain ⟨more, hm⟩ := grown p hp
          rw [← ep] at e ⊢
          rw [hT p hp] at e
          cases e
          exact .inr (.inl ⟨((C p hp).tab (hT p hp)).isCodeTable, rfl, #[], more, rfl, by rw [Array.empty_append]; exact hm⟩)
        · exact .inl (key b o hb e)
      · by_cases hb : b ∈ cs.map (·.2)
        · obtain ⟨p, hp, ep⟩ := List.mem_map.mp hb
          obtain ⟨more, hm⟩ := grown p hp
          rw [← ep]
          exact ⟨_, hm⟩
        · exact ⟨o, key b o hb e⟩
  cases hk : K.lookup a with
  | some o =>
    have e := KX a o hk
    rw [ha] at e
    cases e
    exact core (fun _ => none) (fun _ => .inl rfl) (.inr ⟨vs, 0, hk, rv, by rw [lenV]; exact hl⟩) (fun b u z => by cases (show (none : Option HO) = some u from z)) (fun b z => absurd rfl z) fun z => absurd rfl z
  | none =>
    refine core (fun b => if b = a then some (.frz { cls := .type "list", data := .seq vs.toArray } (.lst (ns.map V.int))) else none) (fun b => ?_) (.inl (.inr ⟨{ cls := .type "list", data := .seq vs.toArray }, if_pos rfl⟩)) (fun b u z => ?_) (fun b z => ?_) fun _ => hk
    · by_cases hb : b = a
      · exact .inr ⟨_, _, if_pos hb⟩
      · exact .inl (if_neg hb)
    · by_cases hb : b = a
      · cases (if_pos hb).symm.trans z
        subst hb
        exact ⟨ha, by rw [List.length_map]; exact hl, vs, _, rv, ha⟩
      · cases (if_neg hb).symm.trans z
    · by_cases hb : b = a
      · exact hb
      · exact absurd (if_neg hb) z
end
end DL

namespace DL
variable {T : List (PySem.Addr × PySem.Str)} {Z : Zx T}
open PySem PySem.Spec PyProof.Rows L2
open Evl (Ex)
theorem isTab_ok {x : Option Obj} (h : isTab x = true) : x = some { cls := .none, data := .fields #[] } := by
  unfold isTab at h
  split at h
  · rename_i vs sl
    obtain ⟨h1, h2⟩ := He.ba h
    obtain rfl : vs = #[] := by simpa using h1
    obtain rfl : sl = #[] := by simpa using h2
    rfl
  · cases h
def tabsOf (K : PySem.W.Frag) (lam : List ((Str × Option Str) × Str)) : List (Addr × Str) := lam.filterMap fun p => (tabX K p.1).map fun z => (z.2, p.2)
def csOf (K : PySem.W.Frag) (lam : List ((Str × Option Str) × Str)) : List (Addr × Addr) := lam.filterMap fun p => tabX K p.1
def lamOne (K : PySem.W.Frag) (g : Addr → Option Obj) (p : (Str × Option Str) × Str) : Bool := match tabX K p.1 with
  | some (c, P) => PySem.W.codeHdIn K c P && isTab (g P)
  | none => false
def lamG (K : PySem.W.Frag) (g : Addr → Option Obj) (lam : List ((Str × Option Str) × Str)) : Bool := lam.all (lamOne K g) && uniT (tabsOf K lam)
def LamSays (lam : List ((Str × Option Str) × Str)) (K : PySem.W.Frag) (h : Heap) : Prop :=
  (∀ p ∈ lam, ∃ c P, tabX K p.1 = some (c, P) ∧ PySem.W.CodeHd h c P ∧ h.get? P = some { cls := .none, data := .fields #[] } ∧ K.lookup P = none) ∧ ∀ p ∈ tabsOf K lam, ∀ q ∈ tabsOf K lam, p.1 = q.1 → p.2 = q.2
theorem LamSays.keeps {lam : List ((Str × Option Str) × Str)} {K : PySem.W.Frag} {h h' : Heap} (x : LamSays lam K h) (k : ∀ b o, h.get? b = some o → h'.get? b = some o) : LamSays lam K h' :=
  ⟨fun p hp => let ⟨c, P, h1, h2, h3, h4⟩ := x.1 p hp; ⟨c, P, h1, h2.keeps k, k _ _ h3, h4⟩, x.2⟩
section
variable {K : PySem.W.Frag} {lam : List ((Str × Option Str) × Str)} {base h : Heap} {mg : Str → Option Value}
theorem lamB_of (x : LamSays lam K h) (TB : ∀ p ∈ csOf K lam, LamX.TabB base mg p.1 p.2) : LamB K base mg (tabsOf K lam) lam :=
  ⟨fun p hp => let ⟨c, P, h1, _⟩ := x.1 p hp; ⟨c, P, h1, TB (c, P) (List.mem_filterMap.mpr ⟨p, hp, h1⟩), List.mem_filterMap.mpr ⟨p, hp, by rw [h1]; rfl⟩⟩, x.2⟩
theorem cs_says (x : LamSays lam K h) : ∀ p ∈ csOf K lam, PySem.W.CodeHd h p.1 p.2 ∧ h.get? p.2 = some { cls := .none, data := .fields #[] } ∧ K.lookup p.2 = none := fun p hp => by
  obtain ⟨q, hq, e⟩ := List.mem_filterMap.mp hp
  obtain ⟨c, P, h1, h2, h3, h4⟩ := x.1 q hq
  rw [h1] at e
  cases e
  exact ⟨h2, h3, h4⟩
theorem tabs_cs : ∀ q ∈ tabsOf K lam, ∃ p ∈ csOf K lam, p.2 = q.1 := fun q hq => by
  obtain ⟨p, hp, e⟩ := List.mem_filterMap.mp hq
  cases z : tabX K p.1 with
  | none => rw [z] at e; cases e
  | some y =>
    rw [z] at e
    cases e
    exact ⟨y, List.mem_filterMap.mpr ⟨p, hp, z⟩, rfl⟩
end
/-- the goal that a head by facts leaves, the defs with lambdas among them -/
theorem walk_dataL {lam : List ((Str × Option Str) × Str)} {l : PySem.W.OpenLaw} {n k : Nat} {q : Program} {loose : List Str} {XP : (Str → Option Value) → Heap → Prop} {YP : World → Heap → Prop} {d : DefRec} {x : Str}
    (hn : l.most = some n) (hn2 : n ≤ sizeLine) (hdf : d.params.defaults = []) (hr : Room k callerA)
    (Fn : ∀ (w : World) (mg : Str → Option Value) (fa : Addr) (h : Heap), YP w h → h.Ns mainGlobals mg → mg d.name = some (.ref fa) →
      ∃ (K : PySem.W.Frag) (fd : FuncData), K.In h ∧ SysD h ∧ LamSays lam K h ∧ (∀ (s : Shared) (u : Value), BindsTo s fd ⟨[u], []⟩ [(x, u)]) ∧
        ∀ base : Heap, K.In base → base.Ns mainGlobals mg → SysD base → LamB K base mg (tabsOf K lam) lam → FnG l.prog w K mg base (tabsOf K lam) k fa fd [x] (lawS n)) :
    PySem.W.WalkO q loose XP YP l.row.toRowW d [] (fun f vs => PySem.call f vs) := by
  refine Att.attach_call hn hdf fun w s₀ s₁ mg mb fa o pm cd doc a vs ns G Y ho hd hcd hmg hobj hints hlen hg => ?_
  obtain ⟨K, fd, KX, hsys, hlam, hb, hF⟩ := Fn w mg fa _ Y G.T.g hmg
  have cs := cs_says hlam
  exact law_dataT (cs := csOf K lam) KX G.T.g G.T.b G.T.builtins G.T.nolimit hg (fun p hp => (cs p hp).2.1) (fun p hp => (cs p hp).2.2) (fun p hp => (cs p hp).1) G.T.bmain hobj hints hlen hn2 hr hsys tabs_cs (fun base h1 h2 h3 h4 => hF base h1 h2 h3 (lamB_of hlam h4)) hb
end DL

namespace DL
variable {T : List (PySem.Addr × PySem.Str)} {Z : Zx T}
open PySem PySem.Spec PyProof.Rows L2 PySem.W
open Evl (Ex)
abbrev KVM := List (PyData × PyData)
def isKy : PyData → Key → Bool
  | .int m, .inl n => decide (m = n)
  | .str x, .inr y => decide (x = y)
  | _, _ => false
theorem isKy_int {m n : Int} : isKy (.int m) (.inl n) = decide (m = n) := rfl
theorem isKy_str {x y : Str} : isKy (.str x) (.inr y) = decide (x = y) := rfl
def atM (ds : KVM) (k : Key) : Option PyData := (ds.find? fun p => isKy p.1 k).map (·.2)
def putM (ds : KVM) (k : Key) (d : PyData) : KVM := if (ds.any fun p => isKy p.1 k) = true then ds.map (fun p => if isKy p.1 k = true then (p.1, d) else p) else ds ++ [(keyD k, d)]
section
variable {K : PySem.W.Frag} {F : Hp}
theorem isKy_i {n : Int} {k : Key} : isKy (.int n) k = decide ((Sum.inl n : Key) = k) := by
  cases k with
  | inl m =>
    rw [isKy_int]
    by_cases e : n = m
    · subst e; simp
    · rw [decide_eq_false e, decide_eq_false fun z => e (Sum.inl.inj z)]
  | inr y => rfl
theorem isKy_s {x : Str} {k : Key} : isKy (.str x) k = decide ((Sum.inr x : Key) = k) := by
  cases k with
  | inl m => rfl
  | inr y =>
    rw [isKy_str]
    by_cases e : x = y
    · subst e; simp
    · rw [decide_eq_false e, decide_eq_false fun z => e (Sum.inr.inj z)]
theorem DM.any (k : Key) : ∀ {vs : List (Key × V)} {ds : KVM}, DM K F vs ds → (vs.any fun kv => decide (kv.1 = k)) = ds.any fun p => isKy p.1 k
  | _, _, .nil => rfl
  | _, _, .int (n := n) _ b => by rw [List.any_cons, List.any_cons, DM.any k b, isKy_i]
  | _, _, .str (x := x) _ b => by rw [List.any_cons, List.any_cons, DM.any k b, isKy_s]
theorem DM.val (k : Key) : ∀ {vs : List (Key × V)} {ds : KVM}, DM K F vs ds → (atM ds k = none ∧ valV vs k = none) ∨ ∃ d v, atM ds k = some d ∧ valV vs k = some v ∧ DR K F v d
  | _, _, .nil => .inl ⟨rfl, rfl⟩
  | _, _, .int (n := n) (v := v) (d := d) (vs := vs) (ds := ds) a b => by
    by_cases e : (Sum.inl n : Key) = k
    · exact .inr ⟨d, v, by simp [atM, List.find?_cons, isKy_i, e], by simp [valV, List.find?_cons, e], a⟩
    · have x : atM ((.int n, d) :: ds) k = atM ds k := by simp [atM, List.find?_cons, isKy_i, e]
      have y : valV ((.inl n, v) :: vs) k = valV vs k := by simp [valV, List.find?_cons, e]
      rw [x, y]
      exact DM.val k b
  | _, _, .str (x := x) (v := v) (d := d) (vs := vs) (ds := ds) a b => by
    by_cases e : (Sum.inr x : Key) = k
    · exact .inr ⟨d, v, by simp [atM, List.find?_cons, isKy_s, e], by simp [valV, List.find?_cons, e], a⟩
    · have y1 : atM ((.str x, d) :: ds) k = atM ds k := by simp [atM, List.find?_cons, isKy_s, e]
      have y : valV ((.inr x, v) :: vs) k = valV vs k := by simp [valV, List.find?_cons, e]
      rw [y1, y]
      exact DM.val k b
theorem DM.snoc {k : Key} {v : V} {d : PyData} (r : DR K F v d) : ∀ {vs : List (Key × V)} {ds : KVM}, DM K F vs ds → DM K F (vs ++ [(k, v)]) (ds ++ [(keyD k, d)])
  | _, _, .nil => by cases k with
    | inl n => exact .int r .nil
    | inr x => exact .str r .nil
  | _, _, .int a b => .int a (DM.snoc r b)
  | _, _, .str a b => .str a (DM.snoc r b)
theorem DM.repl {k : Key} {v : V} {d : PyData} (r : DR K F v d) : ∀ {vs : List (Key × V)} {ds : KVM}, DM K F vs ds → DM K F (vs.map fun kv => if kv.1 = k then (kv.1, v) else kv) (ds.map fun p => if isKy p.1 k = true then (p.1, d) else p)
  | _, _, .nil => .nil
  | _, _, .int (n := n) a b => by
    rw [List.map_cons, List.map_cons]
    by_cases e : (Sum.inl n : Key) = k
    · rw [if_pos e, if_pos (by rw [isKy_i]; exact decide_eq_true e)]
      exact .int r (DM.repl r b)
    · rw [if_neg e, if_neg (by rw [isKy_i, decide_eq_false e]; simp)]
      exact .int a (DM.repl r b)
  | _, _, .str (x := x) a b => by
    rw [List.map_cons, List.map_cons]
    by_cases e : (Sum.inr x : Key) = k
    · rw [if_pos e, if_pos (by rw [isKy_s]; exact decide_eq_true e)]
      exact .str r (DM.repl r b)
    · rw [if_neg e, if_neg (by rw [isKy_s, decide_eq_false e]; simp)]
      exact .str a (DM.repl r b)
theorem DM.put {vs : List (Key × V)} {ds : KVM} (h : DM K F vs ds) (k : Key) {v : V} {d : PyData} (r : DR K F v d) : DM K F (putK vs k v) (putM ds k d) := by
  unfold putK putM
  rw [h.any k]
  split
  · exact h.repl r
  · exact h.snoc r
theorem DM.keys : ∀ {vs : List (Key × V)} {ds : KVM}, DM K F vs ds → DRs K F (vs.map fun p => kV p.1) (ds.map (·.1))
  | _, _, .nil => .nil
  | _, _, .int _ b => .cons (.int _) (DM.keys b)
  | _, _, .str _ b => .cons (.str _) (DM.keys b)
end
section
variable {X : Cx} {K : PySem.W.Frag}
end
section
variable {X : Cx} {a b e : Expr} {es : List Expr} {wa wb we : DE} {was : DA} {pos p : Pos}
end
section
variable {X : Cx} {a b e : Expr} {es : List Expr} {wa wb we : DE} {was : DA} {pos p : Pos} {K : PySem.W.Frag}
end
end DL

namespace DL
variable {T : List (PySem.Addr × PySem.Str)} {Z : Zx T}
open PySem PySem.Spec PyProof.Rows L2 PySem.W
open Evl (Ex)
section
variable {X : Cx} {o e f : Expr} {es : List Expr} {wo we wf : DE} {was : DA} {apos cpos pos p : Pos} {K : PySem.W.Frag}
end
end DL

namespace DL
variable {T : List (PySem.Addr × PySem.Str)} {Z : Zx T}
open PySem PySem.Spec PyProof.Rows L2 PySem.W
open Evl (Ex)
theorem codeO_kk {P : Program} {w : World} {a : Addr} {vs : List (Key × V)} {q : Str} : KkE P w a vs ≠ LamX.CodeO a q := fun z => by
  unfold KkE LamX.CodeO at z
  injection z with z
  have e : (({ objs := Array.replicate a { cls := .none, data := .plain } } : Heap).push { cls := .none, data := .fields #[.none, .str q 0] }).get? a = some { cls := .none, data := .fields #[.none, .str q 0] } := by
    have := Heap.get?_push_size { objs := Array.replicate a { cls := .none, data := .plain } } (o := { cls := .none, data := .fields #[.none, .str q 0] }) rfl
    simpa using this
  have y := (congrFun z (({ objs := Array.replicate a { cls := .none, data := .plain } } : Heap).push { cls := .none, data := .fields #[.none, .str q 0] })).mpr ⟨_, _, 0, e, rfl, rfl⟩
  obtain ⟨_, _, us, _, o, es, ep, e1, _, e2, _⟩ := y
  rw [e] at e1
  cases e1
  cases e2
theorem codeO_ls {a : Addr} {vs : List V} {q : Str} : LsE a vs ≠ LamX.CodeO a q := fun z => by
  unfold LsE LamX.CodeO at z
  injection z with z
  have e : (({ objs := Array.replicate a { cls := .none, data := .plain } } : Heap).push { cls := .none, data := .fields #[.none, .str q 0] }).get? a = some { cls := .none, data := .fields #[.none, .str q 0] } := by
    have := Heap.get?_push_size { objs := Array.replicate a { cls := .none, data := .plain } } (o := { cls := .none, data := .fields #[.none, .str q 0] }) rfl
    simpa using this
  have y := (congrFun z (({ objs := Array.replicate a { cls := .none, data := .plain } } : Heap).push { cls := .none, data := .fields #[.none, .str q 0] })).mpr ⟨_, _, 0, e, rfl, rfl⟩
  obtain ⟨_, its, n, _, e1⟩ := y
  rw [e] at e1
  cases e1
theorem kk_ok {P : Program} {w : World} {H H' : Hp} {h : Heap} {a : Addr} {vs : List (Key × V)} (x : ObjOk P w H h a (.dK vs)) : ObjOk P w H' h a (KkE P w a vs) := by
  obtain ⟨z1, z2, us, z3, z4⟩ := x
  refine ⟨⟨z1, z2, us, z3, z4⟩, ?_, fun h1 h2 ⟨y1, y2, ws, y3, y4⟩ k => ⟨y1, y2, ws, y3, y4.at k⟩⟩
  obtain ⟨o, es, ep, e, _⟩ := z4
  exact ⟨o, e⟩
theorem ls_ok {P : Program} {w : World} {H H' : Hp} {h : Heap} {a : Addr} {vs : List V} (x : ObjOk P w H h a (.lst vs)) : ObjOk P w H' h a (LsE a vs) := by
  obtain ⟨z1, its, n, z2, z3⟩ := x
  exact ⟨⟨z1, its, n, z2, z3⟩, ⟨_, z3⟩, fun h1 h2 ⟨y1, us, m, y2, y3⟩ k => ⟨y1, us, m, y2, k _ y3⟩⟩
/-- the own thing at x is told as it is; a dict is known -/
def ToldO (P : Program) (w : World) (od : Addr → Obj) (x : Addr) (o o' : HO) : Prop := (∃ vs, o = KkE P w x vs ∧ o' = .frz (od x) (.dK vs)) ∨ ∃ vs, o = LsE x vs ∧ o' = .lst vs
def RcO (P : Program) (w : World) (od : Addr → Obj) (H H' : Hp) : Prop := ∀ x, H' x = H x ∨ ∃ o o', H x = some o ∧ H' x = some o' ∧ ToldO P w od x o o'
section
variable {X : Cx} {pins : List (Addr × Obj)} {σ : L2.St} {H H' : Hp} {s : Shared} {od : Addr → Obj}
theorem RcO.none (r : RcO X.prog X.w od H H') {x : Addr} : H' x = Option.none ↔ H x = Option.none := by
  rcases r x with e | ⟨o, o', e1, e2, _⟩
  · rw [e]
  · rw [e1, e2]; simp
theorem RcO.own (r : RcO X.prog X.w od H H') {x : Addr} {o : HO} (n1 : ∀ φ, o ≠ .ext φ) (n2 : ∀ ob u, o ≠ .frz ob u) (n3 : ∀ vs, o ≠ .lst vs) : H' x = some o ↔ H x = some o := by
  rcases r x with e | ⟨p, p', e1, e2, t⟩
  · rw [e]
  · rw [e1, e2]
    rcases t with ⟨vs, rfl, rfl⟩ | ⟨vs, rfl, rfl⟩
    · exact ⟨fun z => absurd (Option.some.inj z).symm (n2 _ _), fun z => absurd (Option.some.inj z).symm (n1 _)⟩
    · exact ⟨fun z => absurd (Option.some.inj z).symm (n3 _), fun z => absurd (Option.some.inj z).symm (n1 _)⟩
theorem _root_.L2.Inv.told (I : Inv X pins σ H s) (r : RcO X.prog X.w od H H') (ho : ∀ x ob, s.heap.get? x = some ob → od x = ob) : Inv X pins σ H' s where
  ok := I.ok
  os := I.os
  bare := I.bare
  base := ⟨I.base.keep, I.base.slot, fun b o e1 e2 e3 => r.none.mpr (I.base.free b o e1 e2 e3), I.base.there, fun b xs e => (r.own (fun _ z => by cases z) (fun _ _ z => by cases z) (fun _ z => by cases z)).mpr (I.base.tups b xs e),
    (fun b o u e => by
      have z := I.base.frzs b o u e
      rcases r b with y | ⟨p, p', e1, e2, t⟩
      · rw [y]; exact z
      · rw [z] at e1
        cases e1
        rcases t with ⟨vs, t, _⟩ | ⟨vs, t, _⟩ <;> cases t),
    fun b ps e => by
      obtain ⟨more, z⟩ := I.base.tbls b ps e
      exact ⟨more, (r.own (fun _ z => by cases z) (fun _ _ z => by cases z) (fun _ z => by cases z)).mpr z⟩⟩
  loc := I.loc
  cell := I.cell
  free := r.none.mpr I.free
  freeC := fun x c e => r.none.mpr (I.freeC x c e)
  pin := fun p hp => let ⟨z1, z2, z3⟩ := I.pin p hp; ⟨z1, r.none.mpr z2, z3⟩
  hok := fun a o e => by
    rcases r a with y | ⟨p, p', e1, e2, t⟩
    · rw [y] at e
      exact (I.hok a o e).stay (fun _ _ _ q => q) (fun b q => (r.own (fun _ z => by cases z) (fun _ _ z => by cases z) (fun _ z => by cases z)).mpr q) fun b xs q => (r.own (fun _ z => by cases z) (fun _ _ z => by cases z) (fun _ z => by cases z)).mpr q
    · rw [e2] at e
      cases e
      have x := I.hok a _ e1
      rcases t with ⟨vs, rfl, rfl⟩ | ⟨vs, rfl, rfl⟩
      · obtain ⟨⟨z1, z2, us, z3, z4⟩, ⟨ob, eo⟩, _⟩ := x
        refine ⟨by rw [ho a ob eo]; exact eo, z1, z2, us, z3, z4⟩
      · exact x.1
  len := I.len
theorem _root_.L2.Inv.untold (I : Inv X pins σ H' s) (r : RcO X.prog X.w od H H') (nf : ∀ b o u, X.H_0 b = some (.frz o u) → H b = H' b) : Inv X pins σ H s where
  ok := I.ok
  os := I.os
  bare := I.bare
  base := ⟨I.base.keep, I.base.slot, fun b o e1 e2 e3 => r.none.mp (I.base.free b o e1 e2 e3), I.base.there, fun b xs e => (r.own (fun _ z => by cases z) (fun _ _ z => by cases z) (fun _ z => by cases z)).mp (I.base.tups b xs e),
    fun b o u e => by rw [nf b o u e]; exact I.base.frzs b o u e,
    fun b ps e => by
      obtain ⟨more, z⟩ := I.base.tbls b ps e
      exact ⟨more, (r.own (fun _ z => by cases z) (fun _ _ z => by cases z) (fun _ z => by cases z)).mp z⟩⟩
  loc := I.loc
  cell := I.cell
  free := r.none.mp I.free
  freeC := fun x c e => r.none.mp (I.freeC x c e)
  pin := fun p hp => let ⟨z1, z2, z3⟩ := I.pin p hp; ⟨z1, r.none.mp z2, z3⟩
  hok := fun a o e => by
    rcases r a with y | ⟨p, p', e1, e2, t⟩
    · rw [← y] at e
      exact (I.hok a o e).stay (fun _ _ _ q => q) (fun b q => (r.own (fun _ z => by cases z) (fun _ _ z => by cases z) (fun _ z => by cases z)).mp q) fun b xs q => (r.own (fun _ z => by cases z) (fun _ _ z => by cases z) (fun _ z => by cases z)).mp q
    · rw [e1] at e
      cases e
      have x := I.hok a _ e2
      rcases t with ⟨vs, rfl, rfl⟩ | ⟨vs, rfl, rfl⟩
      · exact kk_ok (H := H') x.2
      · exact ls_ok (H := H') x
  len := I.len
/-- an expression, one's own things told as what they are meanwhile -/
theorem PE.rc {e : Expr} {t : TE} (h : PE X e t) : PE X e (fun σ H Q => ∃ told : (Addr → Obj) → Hp, ∀ od, RcO X.prog X.w od H (told od) ∧ t σ (told od) fun v H1 => ∃ H2, RcO X.prog X.w od H2 H1 ∧ (∀ x, H2 x = H1 x ∨ ∃ φ, H x = some (.ext φ)) ∧ Q v H2) := ⟨fun pins s σ H Q I ⟨told, hw⟩ => by
  obtain ⟨r, w⟩ := hw fun x => (s.heap.get? x).getD { cls := .none, data := .plain }
  refine thn (h.run pins s σ _ _ (I.told r fun x ob e => by rw [e]; rfl) w) fun v s1 ⟨x, H1, I1, rv, H2, r2, nf, q⟩ => ⟨x, H2, I1.untold r2 fun b o u e => ?_, rv, q⟩
  rcases nf b with z | ⟨φ, z⟩
  · exact z
  · have := I.base.frzs b o u e
    rw [z] at this
    cases this⟩
theorem PT.rc {e : Expr} {t : TT} (h : PT X e t) : PT X e (fun σ H Q => ∃ told : (Addr → Obj) → Hp, ∀ od, RcO X.prog X.w od H (told od) ∧ t σ (told od) fun v H1 => ∃ H2, RcO X.prog X.w od H2 H1 ∧ (∀ x, H2 x = H1 x ∨ ∃ φ, H x = some (.ext φ)) ∧ Q v H2) := ⟨fun pins s σ H Q I ⟨told, hw⟩ => by
  obtain ⟨r, w⟩ := hw fun x => (s.heap.get? x).getD { cls := .none, data := .plain }
  refine thn (h.run pins s σ _ _ (I.told r fun x ob e => by rw [e]; rfl) w) fun v s1 ⟨H1, I1, H2, r2, nf, q⟩ => ⟨H2, I1.untold r2 fun b o u e => ?_, q⟩
  rcases nf b with z | ⟨φ, z⟩
  · exact z
  · have := I.base.frzs b o u e
    rw [z] at this
    cases this⟩
/-- statements, one's own things told from here on -/
theorem PSs.rc {sts : List Stmt} {t : TS} (h : PSs X sts t) : PSs X sts (fun D σ H => ∃ told : (Addr → Obj) → Hp, ∀ od, RcO X.prog X.w od H (told od) ∧ t D σ (told od)) := ⟨fun pins s σ H D I ⟨told, hw⟩ => by
  obtain ⟨r, w⟩ := hw fun x => (s.heap.get? x).getD { cls := .none, data := .plain }
  exact h.run pins s σ _ _ (I.told r fun x ob e => by rw [e]; rfl) w⟩
end
end DL

namespace DL
variable {T : List (PySem.Addr × PySem.Str)} {Z : Zx T}
open PySem PySem.Spec PyProof.Rows L2 PySem.W
open Evl (Ex)
section
variable {X : Cx} {pins : List (Addr × Obj)} {σ : L2.St} {H : Hp} {s : Shared} {a : Addr} {vs : List (Key × V)}
end
section
variable {K : PySem.W.Frag} {g : Gx Z} {F : Hp} {env : List SD} {σ : L2.St} {H : Hp}
end
section
variable {X : Cx} {e b : Expr} {es : List Expr} {we wb : DE} {was : DA} {m : Nat} {p pos : Pos} {sts : List Stmt}
end
end DL

namespace DL
variable {T : List (PySem.Addr × PySem.Str)} {Z : Zx T}
open PySem PySem.Spec PyProof.Rows L2 PySem.W
open Evl (Ex)
/-- what the thing at x is told as -/
def TVal (K : PySem.W.Frag) (Z : Zx T) (F H : Hp) (env : List SD) (σ : L2.St) (B : Nat → List Addr) (x : Addr) (f : Obj → HO) : Prop :=
  (∃ (i : Nat) (ds : KVM) (vs : List (Key × V)), env[i]? = some (.dic (.kk ds)) ∧ σ[i]? = some (some (.ref x)) ∧ H x = some (KkE Z.P Z.w x vs) ∧ DM K F vs ds ∧ f = fun o => .frz o (.dK vs)) ∨
  (∃ (i : Nat) (rows : List (List PyData)), env[i]? = some (.dic (.mt rows)) ∧ σ[i]? = some (some (.ref x)) ∧ H x = some (LsE x ((B i).map .ref)) ∧ f = fun _ => .lst ((B i).map .ref)) ∨
  ∃ (i : Nat) (rows : List (List PyData)) (a : Addr) (j : Nat) (vs : List V) (row : List PyData), env[i]? = some (.dic (.mt rows)) ∧ σ[i]? = some (some (.ref a)) ∧ (B i)[j]? = some x ∧ rows[j]? = some row ∧ H x = some (LsE x vs) ∧ DRs K F vs row ∧ f = fun _ => .lst vs
theorem nodupG {α : Type} {l : List α} (h : l.Nodup) {i j : Nat} {x : α} (e1 : l[i]? = some x) (e2 : l[j]? = some x) : i = j := by
  obtain ⟨h1, e1⟩ := List.getElem?_eq_some_iff.mp e1
  obtain ⟨h2, e2⟩ := List.getElem?_eq_some_iff.mp e2
  have pw := List.pairwise_iff_getElem.mp h
  rcases Nat.lt_trichotomy i j with z | z | z
  · exact absurd (e1.trans e2.symm) (pw i j h1 h2 z)
  · exact z
  · exact absurd (e2.trans e1.symm) (pw j i h2 h1 z)
section
variable {K : PySem.W.Frag} {g : Gx Z} {F : Hp} {env : List SD} {σ : L2.St} {H : Hp} {B : Nat → List Addr}
theorem TVal.out (db : DicsB K g F env σ H B) {x : Addr} {f : Obj → HO} (t : TVal K Z F H env σ B x f) : F x = none ∧ g.H0 x = none ∧ ∃ o, H x = some o ∧ (∃ φ, o = .ext φ) ∧ (∀ q, o ≠ LamX.CodeO x q) ∧ ∀ (od : Addr → Obj), ToldO Z.P Z.w od x o (f (od x)) := by
  rcases t with ⟨i, ds, vs, e1, e2, e3, e4, rfl⟩ | ⟨i, rows, e1, e2, e3, rfl⟩ | ⟨i, rows, a, j, vs, row, e1, e2, e3, e4, e5, e6, rfl⟩
  · obtain ⟨f1, f2, _⟩ := db.there e1 e2 List.mem_cons_self
    exact ⟨f1, f2, _, e3, ⟨_, rfl⟩, fun _ => codeO_kk, fun od => .inl ⟨vs, rfl, rfl⟩⟩
  · obtain ⟨f1, f2, _⟩ := db.there e1 e2 List.mem_cons_self
    exact ⟨f1, f2, _, e3, ⟨_, rfl⟩, fun _ => codeO_ls, fun od => .inr ⟨_, rfl, rfl⟩⟩
  · obtain ⟨f1, f2, _⟩ := db.there e1 e2 (List.mem_cons_of_mem _ (List.mem_of_getElem? e3))
    exact ⟨f1, f2, _, e5, ⟨_, rfl⟩, fun _ => codeO_ls, fun od => .inr ⟨_, rfl, rfl⟩⟩
/-- two places of one's own things are one slot's -/
theorem DicsB.one (db : DicsB K g F env σ H B) {i j : Nat} {w w' : Own} {a b x : Addr} (e1 : env[i]? = some (.dic w)) (e2 : env[j]? = some (.dic w')) (s1 : σ[i]? = some (some (.ref a))) (s2 : σ[j]? = some (some (.ref b))) (h1 : x ∈ a :: B i) (h2 : x ∈ b :: B j) : i = j := by
  by_cases n : i = j
  · exact n
  · exact absurd h2 (db.sep i j w w' a b e1 e2 s1 s2 n x h1)
theorem TVal.kk (db : DicsB K g F env σ H B) {i : Nat} {ds : KVM} {x : Addr} {f : Obj → HO} (t : TVal K Z F H env σ B x f) (e : env[i]? = some (.dic (.kk ds))) (s : σ[i]? = some (some (.ref x))) : ∃ vs, DM K F vs ds ∧ f = fun o => .frz o (.dK vs) := by
  rcases t with ⟨i', ds', vs, e1, e2, e3, e4, rfl⟩ | ⟨i', rows, e1, e2, e3, rfl⟩ | ⟨i', rows, a, j, vs, row, e1, e2, e3, e4, e5, e6, rfl⟩
  · have := db.one e e1 s e2 List.mem_cons_self List.mem_cons_self
    subst this
    rw [e] at e1
    cases e1
    exact ⟨vs, e4, rfl⟩
  · have := db.one e e1 s e2 List.mem_cons_self List.mem_cons_self
    subst this
    rw [e] at e1
    cases e1
  · have := db.one e e1 s e2 List.mem_cons_self (List.mem_cons_of_mem _ (List.mem_of_getElem? e3))
    subst this
    rw [e] at e1
    cases e1
theorem TVal.mt (db : DicsB K g F env σ H B) {i : Nat} {rows : List (List PyData)} {x : Addr} {f : Obj → HO} (t : TVal K Z F H env σ B x f) (e : env[i]? = some (.dic (.mt rows))) (s : σ[i]? = some (some (.ref x))) : f = fun _ => .lst ((B i).map .ref) := by
  rcases t with ⟨i', ds', vs, e1, e2, e3, e4, rfl⟩ | ⟨i', rows', e1, e2, e3, rfl⟩ | ⟨i', rows', a, j, vs, row, e1, e2, e3, e4, e5, e6, rfl⟩
  · have := db.one e e1 s e2 List.mem_cons_self List.mem_cons_self
    subst this
    rw [e] at e1
    cases e1
  · have := db.one e e1 s e2 List.mem_cons_self List.mem_cons_self
    subst this
    rfl
  · have := db.one e e1 s e2 List.mem_cons_self (List.mem_cons_of_mem _ (List.mem_of_getElem? e3))
    subst this
    obtain ⟨c, y1, y2⟩ := db.at_ i _ e
    rw [s] at y1
    cases y1
    exact absurd (List.mem_of_getElem? e3) (List.nodup_cons.mp y2.rel.1.2).1
theorem TVal.row (db : DicsB K g F env σ H B) {i j : Nat} {rows : List (List PyData)} {row : List PyData} {a x : Addr} {f : Obj → HO} (t : TVal K Z F H env σ B x f) (e : env[i]? = some (.dic (.mt rows))) (s : σ[i]? = some (some (.ref a))) (hx : (B i)[j]? = some x) (hr : rows[j]? = some row) : ∃ vs, DRs K F vs row ∧ f = fun _ => .lst vs := by
  have mx : x ∈ a :: B i := List.mem_cons_of_mem _ (List.mem_of_getElem? hx)
  obtain ⟨c, y1, y2⟩ := db.at_ i _ e
  rw [s] at y1
  cases y1
  have nd := List.nodup_cons.mp y2.rel.1.2
  rcases t with ⟨i', ds', vs, e1, e2, e3, e4, rfl⟩ | ⟨i', rows', e1, e2, e3, rfl⟩ | ⟨i', rows', a', j', vs, row', e1, e2, e3, e4, e5, e6, rfl⟩
  · have := db.one e e1 s e2 mx List.mem_cons_self
    subst this
    rw [e] at e1
    cases e1
  · have := db.one e e1 s e2 mx List.mem_cons_self
    subst this
    rw [s] at e2
    cases e2
    exact absurd (List.mem_of_getElem? hx) nd.1
  · have := db.one e e1 s e2 mx (List.mem_cons_of_mem _ (List.mem_of_getElem? e3))
    subst this
    rw [e] at e1
    cases e1
    have := nodupG nd.2 hx e3
    subst this
    rw [hr] at e4
    cases e4
    exact ⟨vs, e6, rfl⟩
theorem tabs_to {H H' : Hp} (t : LamX.Tabs T H) (h1 : ∀ x ps, H x = some (.tbl ps) → H' x = some (.tbl ps)) (h2 : ∀ x q, H x = some (LamX.CodeO x q) → H' x = some (LamX.CodeO x q)) : LamX.Tabs T H' := fun p hp => by
  obtain ⟨ps, a1, a2, a3⟩ := t p hp
  exact ⟨ps, h1 _ _ a1, a2, fun pos cv hc => let ⟨c, z1, z2⟩ := a3 pos cv hc; ⟨c, z1, h2 _ _ z2⟩⟩
end
section
variable {X : Cx} {e : Expr}
end
end DL

namespace DL
variable {T : List (PySem.Addr × PySem.Str)} {Z : Zx T}
open PySem PySem.Spec PyProof.Rows L2 PySem.W
open Evl (Ex)
section
variable {X : Cx} {pins : List (Addr × Obj)} {σ : L2.St} {H : Hp} {s : Shared} {a : Addr} {vs : List V}
theorem _root_.L2.Inv.ofL (I : Inv X pins σ H s) (e : H a = some (.lst vs)) : Inv X pins σ (upd H a (LsE a vs)) s := by
  have x := I.hok a _ e
  have x2 : ObjOk X.prog X.w (upd H a (LsE a vs)) s.heap a (LsE a vs) := ls_ok (H := H) x
  exact d_write (t' := s.toks) I (by rw [e]; exact True.intro) ⟨rfl, fun _ _ => rfl⟩ x2.2.1 x2
end
section
variable {X : Cx} {e : Expr} {st : Stmt}
end
section
variable {K : PySem.W.Frag} {g : Gx Z} {F : Hp} {env : List SD} {σ : L2.St} {H : Hp}
theorem Paired.setR {α β : Type} {R : α → β → Prop} {xs : List α} {ys : List β} (h : Paired R xs ys) : ∀ {j : Nat} {y : β}, (∀ x, xs[j]? = some x → R x y) → Paired R xs (ys.set j y) := by
  induction h with
  | nil => intro j y _; exact .nil
  | cons r t ih =>
    intro j y hy
    cases j with
    | zero => exact .cons (hy _ rfl) t
    | succ j => exact .cons r (ih fun x hx => hy x (by simpa using hx))
end
end DL

namespace DL
variable {T : List (PySem.Addr × PySem.Str)} {Z : Zx T}
open PySem PySem.Spec PyProof.Rows L2 PySem.W
open Evl (Ex)
section
variable {X : Cx} {e b : Expr} {es : List Expr} {we wb : DE} {m : Nat} {p pos : Pos} {sts : List Stmt} {st : Stmt}
end
end DL

namespace DL
variable {T : List (PySem.Addr × PySem.Str)} {Z : Zx T}
open PySem PySem.Spec PyProof.Rows L2 PySem.W
open Evl (Ex)
section
variable {K : PySem.W.Frag} {g : Gx Z} {F F' : Hp} {env env' : List SD} {σ : L2.St} {H H' : Hp} {B : Nat → List Addr}
theorem DicsB.sub (d : DicsB K g F env σ H B) (h : ∀ (i : Nat) (w : Own), env'[i]? = some (.dic w) → env[i]? = some (.dic w)) : DicsB K g F env' σ H B :=
  ⟨fun i w e => d.at_ i w (h i w e), fun i j w w' a b e1 e2 => d.sep i j w w' a b (h i w e1) (h j w' e2)⟩
theorem wipe_up {vs : List Nat} {i : Nat} {v : V} (e : (wipe σ vs)[i]? = some (some v)) : σ[i]? = some (some v) := by
  rw [wipe_get] at e
  by_cases hj : i ∈ vs
  · rw [if_pos hj] at e
    cases q : σ[i]? with
    | none => rw [q] at e; cases e
    | some o => rw [q] at e; cases e
  · rw [if_neg hj] at e
    exact e
theorem DicsB.unwiped {vs : List Nat} (d : DicsB K g F env (wipe σ vs) H B) : DicsB K g F env σ H B :=
  ⟨fun i w e => let ⟨a, h1, h2⟩ := d.at_ i w e; ⟨a, wipe_up h1, h2⟩, fun i j w w' a b e1 e2 s1 s2 => by
    obtain ⟨a', y1, _⟩ := d.at_ i w e1
    obtain ⟨b', y2, _⟩ := d.at_ j w' e2
    have z1 := wipe_up y1
    have z2 := wipe_up y2
    rw [s1] at z1
    rw [s2] at z2
    cases z1
    cases z2
    exact d.sep i j w w' a b e1 e2 y1 y2⟩
end
section
variable {X : Cx} {tg iter : Expr} {scope : Scope} {own : List (Str × Nat)} {pos p2 : Pos} {wi : DI} {m : Nat}
end
end DL

namespace DL
variable {T : List (PySem.Addr × PySem.Str)} {Z : Zx T}
open PySem PySem.Spec PyProof.Rows L2
open Evl (Ex)
section
variable {X : Cx} {K : PySem.W.Frag}
end
section
variable {P : Program} {w : World} {K : PySem.W.Frag} {mg : Str → Option Value} {base : Heap}
end
end DL

namespace DL
variable {T : List (PySem.Addr × PySem.Str)} {Z : Zx T}
open PySem PySem.Spec PyProof.Rows L2
open Evl (Ex)
section
variable {X : Cx}
end
section
variable {X : Cx} {a : Expr} {wa : DE} {p pos p1 kp : Pos} {nm : Option Str} {j : Nat}
end
end DL

namespace DL
variable {T : List (PySem.Addr × PySem.Str)} {Z : Zx T}
open PySem PySem.Spec PyProof.Rows L2
open Evl (Ex)
section
variable {X : Cx} {e : Expr}
end
end DL

namespace DL
variable {T : List (PySem.Addr × PySem.Str)} {Z : Zx T}
open PySem PySem.Spec PyProof.Rows L2
open Evl (Ex)
section
variable {X : Cx} {a : Expr} {wa : DE} {pos p p2 pos2 : Pos}
end
end DL

namespace DL
variable {T : List (PySem.Addr × PySem.Str)} {Z : Zx T}
open PySem PySem.Spec PySem.W PySem.Calls PyProof.Rows L2
open Evl (Ex)
section
variable {prog : Program} {w : World} {A : Around} {E : Value → Shared → Prop} {s : Shared}
end
section
variable {X : Cx}
end
section
variable {X : Cx} {a : Expr} {wa : DE} {p pos p1 kp : Pos} {nm : Option Str} {j : Nat}
end
end DL

namespace DL
variable {T : List (PySem.Addr × PySem.Str)} {Z : Zx T}
open PySem PySem.Spec PyProof.Rows L2 PySem.W
open Evl (Ex)
section
variable {X : Cx}
end
section
variable {X : Cx} {a : Expr} {wa : DE} {p pos : Pos}
end
end DL

namespace DL
variable {T : List (PySem.Addr × PySem.Str)} {Z : Zx T}
open PySem PySem.Spec PyProof.Rows L2 PySem.W
open Evl (Ex)
/-- a def of the top that returns a key of its one parameter -/
structure KeyD (K : PySem.W.Frag) (mg : Str → Option Value) (y : Str) (kb : Kx) : Prop where
  ex : ∃ (qual x : Str) (st : Stmt) (fd : FuncData) (e : Expr) (pos : Pos), Fun K qual qual st (He.ga K y) fd ∧ LamK (defScope st) x ∧ defBody st = [.Return (some e) pos] ∧ KbE x e kb ∧ Binds K fd [x] [] ∧ (x == ("__debug__" : Str)) = false
  glo : mg y = some (.ref (He.ga K y))
section
variable {X : Cx} {pins : List (Addr × Obj)} {σ : L2.St} {H : Hp} {s : Shared}
end
section
variable {X : Cx} {a : Expr} {wa : DE} {p pos kpos p2 : Pos} {y : Str}
end
end DL

namespace DL
variable {T : List (PySem.Addr × PySem.Str)} {Z : Zx T}
open PySem PySem.Spec PyProof.Rows L2 PySem.W
open Evl (Ex)
section
variable {X : Cx}
end
section
variable {X : Cx} {x : Str} {p p0 pos apos cpos : Pos}
end
end DL

namespace DL
variable {T : List (PySem.Addr × PySem.Str)} {Z : Zx T}
open PySem PySem.Spec PyProof.Rows L2 PySem.W
open Evl (Ex)
end DL

namespace RZ3
open PySem RZ
open PySem.Sem (wp)
theorem typeCall_zip_3 (a b c : Value) : checkTypeCall "zip" ⟨[a, b, c], []⟩ = pure () := by kernel_rfl
theorem newCall_zip_3 (a b c : Value) : checkBuiltinCall "zip.__new__" ⟨[.type "zip", a, b, c], []⟩ = pure () := by kernel_rfl
theorem args_object_init_4 (a b c d : Value) : argsOk "object.__init__" ⟨[a, b, c, d], []⟩ := by
  unfold argsOk; rw [signature?_of (id := "object.__init__") (n := ['_', '_', 't', 'i', 'n', 'i', '_', '_']) (o := ['t', 'c', 'e', 'j', 'b', 'o']) (by kernel_rfl) F.owner_object]; kernel_rfl
abbrev IsTrip (h : Heap) (T : Addr) (a b c : Value) : Prop := h.get? T = some { cls := .type "tuple", data := .seq #[a, b, c] }
structure Apart (z TI TO i1 i2 i3 l1 l2 l3 : Addr) : Prop where
  TI_z : TI ≠ z
  TO_z : TO ≠ z
  i1_z : i1 ≠ z
  i2_z : i2 ≠ z
  i3_z : i3 ≠ z
  TI_TO : TI ≠ TO
  TI_i1 : TI ≠ i1
  TI_i2 : TI ≠ i2
  TI_i3 : TI ≠ i3
  TO_i1 : TO ≠ i1
  TO_i2 : TO ≠ i2
  TO_i3 : TO ≠ i3
  i1_i2 : i1 ≠ i2
  i1_i3 : i1 ≠ i3
  i2_i3 : i2 ≠ i3
  l1_z : l1 ≠ z
  l1_TO : l1 ≠ TO
  l1_i1 : l1 ≠ i1
  l1_i2 : l1 ≠ i2
  l1_i3 : l1 ≠ i3
  l2_z : l2 ≠ z
  l2_TO : l2 ≠ TO
  l2_i1 : l2 ≠ i1
  l2_i2 : l2 ≠ i2
  l2_i3 : l2 ≠ i3
  l3_z : l3 ≠ z
  l3_TO : l3 ≠ TO
  l3_i1 : l3 ≠ i1
  l3_i2 : l3 ≠ i2
  l3_i3 : l3 ≠ i3
section
variable {prog : Program} {w : World} {A : Around} {E : Value → Shared → Prop} {s : Shared}
theorem wpAny_updateSeq_trip {T : Addr} {a b c x : Value} {k : Nat} {Q : Unit → Shared → Prop} (hT : IsTrip s.heap T a b c)
    (h : ∀ h', h'.get? T = some { cls := .type "tuple", data := .seq ((#[a, b, c] : Array Value).setIfInBounds k x) } → Heap.SameBut T s.heap h' → Q () { s with heap := h' }) :
    wpAny (model prog w) A (updateSeq T (·.setIfInBounds k x)) Q E s := by
  refine wpAny_updateSeq hT rfl (h _ ?_ (Heap.SameBut.update ..))
  rw [Heap.get?_update_self _ hT rfl]
  simp [Obj.mapSeq]
end
section
variable {prog : Program} {w : World} {A : Around} {E : Value → Shared → Prop} {s : Shared}
end
end RZ3

namespace DL
variable {T : List (PySem.Addr × PySem.Str)} {Z : Zx T}
open PySem PySem.Spec PyProof.Rows L2 RZ3
open Evl (Ex)
section
variable {X : Cx} {a b c : Expr} {was : DA} {pos : Pos}
end
end DL

namespace DL
variable {T : List (PySem.Addr × PySem.Str)} {Z : Zx T}
open PySem PySem.Spec PyProof.Rows L2
open Evl (Ex)
section
variable {X : Cx} {a b c : Expr} {was : DA} {pos : Pos}
end
end DL

namespace DL
variable {T : List (PySem.Addr × PySem.Str)} {Z : Zx T}
open PySem PySem.Spec PyProof.Rows L2 PySem.W
open Evl (Ex)
/-- without the thing at p -/
def delH (H : Hp) (p : Addr) : Hp := fun a => if a = p then none else H a
section
variable {H : Hp} {p a : Addr} {o : HO}
theorem delH_ne (h : a ≠ p) : delH H p a = H a := if_neg h
end
section
variable {K : PySem.W.Frag} {g : Gx Z} {F : Hp} {env : List SD} {σ : L2.St} {H : Hp}
theorem Ok.gone (k : Ok K g F env σ H) {D : Addr} {o0 : HO} (hD : H D = some o0) (hn : ∀ φ, o0 ≠ .ext φ) (t1 : ∀ ps, o0 ≠ .tbl ps) (t2 : ∀ q, o0 ≠ LamX.CodeO D q) (hF : F D = none) (h0 : g.H0 D = none) (hp : g.Pr D = none) (nw : NoNm env σ D) : Ok K g F env σ (delH H D) := by
  refine ⟨k.len, fun a u e => ?_, k.dat, fun i p xs e => ?_, k.sep, k.pin, ⟨fun a u e n => ?_, tabs_to k.frame.tab (fun x ps e => ?_) fun x q e => ?_⟩, k.newF, k.oldF, fun a u e => ?_, (k.dic.keep (Ex.refl F) (fun _ _ _ z => z) fun a xs e n => ⟨n, delH_ne fun z => ?_⟩)⟩
  · have ne : a ≠ D := fun z => by rw [z, hF] at e; cases e
    rw [delH_ne ne]
    exact k.fh a u e
  · obtain ⟨a, us, h1, h2, h3, h4⟩ := k.cel i p xs e
    have ne : a ≠ D := fun z => by subst z; exact nw i p xs e h1
    exact ⟨a, us, h1, h2, by rw [delH_ne ne]; exact h3, h4⟩
  · have ne : a ≠ D := fun z => by rw [z, h0] at e; cases e
    rw [delH_ne ne]
    exact k.frame.stay a u e n
  · have ne : x ≠ D := fun z => by rw [z, hD] at e; exact t1 ps (Option.some.inj e)
    rw [delH_ne ne]
    exact e
  · have ne : x ≠ D := fun z => by
      subst z
      rw [hD] at e
      exact t2 q (Option.some.inj e)
    rw [delH_ne ne]
    exact e
  · obtain ⟨z1, z2, z3⟩ := k.prot a u e
    have ne : a ≠ D := fun z => by rw [z, hp] at e; cases e
    exact ⟨by rw [delH_ne ne]; exact z1, z2, z3⟩
  · subst z
    rw [hD] at e
    exact hn xs (Option.some.inj e)
end
abbrev DPs := List SD → (List (Key × PyData) → List SD → Prop) → Prop
abbrev PrR (K : PySem.W.Frag) (F : Hp) : List (Key × PyData) → List (Key × V) → Prop := Paired fun p u => p.1 = u.1 ∧ DR K F u.2 p.2
theorem PrR.mono {K : PySem.W.Frag} {F F' : Hp} (e : Ex F F') {ps : List (Key × PyData)} {us : List (Key × V)} (h : PrR K F ps us) : PrR K F' ps us := Paired.mapP h fun _ _ ⟨h1, h2⟩ => ⟨h1, h2.mono e⟩
def liftPs (K : PySem.W.Frag) (Z : Zx T) (n : Nat) (w : DPs) (trs : List (TE × TE)) : Prop := ∀ (σ : L2.St) (H : Hp) (Q : List (V × V) → Hp → Prop),
  (∃ (g : Gx Z) (F : Hp) (env : List SD) (P : List (Key × PyData) → List SD → Prop), Ok K g F env σ H ∧ w env P ∧
    ∀ ps env' F' H' us, P ps env' → Ex F F' → Ok K g F' env' σ H' → PrR K F' ps us → us.length = n → Q (us.map fun kv => (kV kv.1, kv.2)) H') → tPairs trs σ H Q
def PP (X : Cx) (Z : Zx T) (pos : Pos) (keys : List (Option Expr)) (values : List Expr) (w : DPs) : Prop := ∃ trs, PPs X pos keys values trs ∧ liftPs X.K Z keys.length w trs
section
variable {X : Cx} {pos : Pos} {k v : Expr} {ks : List (Option Expr)} {vs : List Expr} {wk wv : DE} {w : DPs}
end
section
variable {X : Cx} {o e : Expr} {apos cpos : Pos} {td ty : TE}
end
section
variable {X : Cx} {e : Expr} {m : Nat} {pos : Pos}
end
end DL

namespace DL
variable {T : List (PySem.Addr × PySem.Str)} {Z : Zx T}
open PySem PySem.Spec PyProof.Rows L2 PySem.W
open Evl (Ex)
open PySem.SeqAt in
section
end
section
variable {X : Cx} {a b : Expr} {wa wb : DE} {pos : Pos} {K : PySem.W.Frag}
end
end DL

namespace DL
variable {T : List (PySem.Addr × PySem.Str)} {Z : Zx T}
open PySem PySem.Spec PyProof.Rows L2 PySem.W
open Evl (Ex)
section
variable {K : PySem.W.Frag} {g : Gx Z} {F : Hp} {env : List SD} {σ : L2.St} {H : Hp}
end
section
variable {X : Cx} {m : Nat} {pos : Pos}
end
end DL

namespace DL
variable {T : List (PySem.Addr × PySem.Str)} {Z : Zx T}
open PySem PySem.Spec PyProof.Rows L2 PySem.W
open Evl (Ex)
section
variable {X : Cx} {e : Expr} {es : List Expr} {pos p : Pos} {was : DA} {K : PySem.W.Frag}
end
end DL

namespace DL
variable {T : List (PySem.Addr × PySem.Str)} {Z : Zx T}
open PySem PySem.Spec PyProof.Rows L2 PySem.W
open Evl (Ex)
section
variable {X : Cx} {tg iter : Expr} {scope : Scope} {own : List (Str × Nat)} {pos p2 : Pos} {wi : DI} {m : Nat}
end
section
variable {X : Cx} {e : Expr} {m : Nat} {pos : Pos}
end
end DL

namespace DL
variable {T : List (PySem.Addr × PySem.Str)} {Z : Zx T}
open PySem PySem.Spec PyProof.Rows L2
open Evl (Ex)
section
variable {P : Program} {w : World} {A : Around} {E : Value → Shared → Prop} {s : Shared}
end
section
variable {X : Cx} {a : Expr} {wa : DE} {p p2 pos pos2 : Pos}
end
end DL

namespace RZ3A
open PySem RZ
open PySem.Sem (wp)
open RZ3 (typeCall_zip_3 newCall_zip_3 args_object_init_4 IsTrip Apart wpAny_updateSeq_trip)
/-- a list or a tuple, and its iterator -/
def SqA (b : Bool) (h : Heap) (l : Addr) (xs : Array Value) : Prop := match b with
  | true => h.IsList l xs
  | false => h.IsTuple l xs
def ItA (b : Bool) (h : Heap) (i l : Addr) (k : Nat) : Prop := match b with
  | true => h.IsListIter i l k
  | false => h.IsTupleIter i l k
theorem SqA.extBut {b : Bool} {h h' : Heap} {a c : Addr} {items : Array Value} (x : SqA b h a items) (hs : Heap.ExtBut c h h') (hab : a ≠ c) : SqA b h' a items := by
  cases b with
  | true => exact Heap.IsList.extBut x hs hab
  | false => exact Heap.IsTuple.extBut x hs hab
theorem SqA.push {b : Bool} {h : Heap} {a : Addr} {items : Array Value} (x : SqA b h a items) (o : Obj) : SqA b (h.push o) a items := by
  cases b with
  | true => exact Heap.IsList.push x o
  | false => exact Heap.IsTuple.push x o
theorem ItA.extBut {b : Bool} {h h' : Heap} {a c l : Addr} {i : Nat} (x : ItA b h a l i) (hs : Heap.ExtBut c h h') (hab : a ≠ c) : ItA b h' a l i := by
  cases b with
  | true => exact Heap.IsListIter.extBut x hs hab
  | false => exact Heap.IsTupleIter.extBut x hs hab
theorem ItA.at {b : Bool} {h h' : Heap} {a l : Addr} {i : Nat} (x : ItA b h a l i) (e : ∀ o, h.get? a = some o → h'.get? a = some o) : ItA b h' a l i := by
  cases b with
  | true => exact Heap.IsListIter.at x e
  | false => exact Heap.IsTupleIter.at x e
theorem ItA.obj {b : Bool} {h : Heap} {a l : Addr} {i : Nat} (x : ItA b h a l i) : ∃ o, h.get? a = some o ∧ o.data = .fields #[.ref l, .int i 0] := by
  cases b with
  | true => obtain ⟨o, h1, _, h2⟩ := x; exact ⟨o, h1, h2⟩
  | false => obtain ⟨o, h1, _, h2⟩ := x; exact ⟨o, h1, h2⟩
theorem SqA.obj {b : Bool} {h : Heap} {a : Addr} {xs : Array Value} (x : SqA b h a xs) : ∃ o, h.get? a = some o := by
  cases b with
  | true => obtain ⟨o, h1, _⟩ := x; exact ⟨o, h1⟩
  | false => obtain ⟨o, h1, _⟩ := x; exact ⟨o, h1⟩
section
variable {prog : Program} {w : World} {A : Around} {E : Value → Shared → Prop} {s : Shared}
end
section
variable {prog : Program} {w : World} {A : Around} {E : Value → Shared → Prop} {s : Shared}
end
end RZ3A

namespace DL
variable {T : List (PySem.Addr × PySem.Str)} {Z : Zx T}
open PySem PySem.Spec PyProof.Rows L2 RZ3A
open RZ3 (IsTrip Apart)
open Evl (Ex)
section
variable {X : Cx} {a b c : Expr} {was : DA} {pos : Pos}
end
end DL

namespace DL
variable {T : List (PySem.Addr × PySem.Str)} {Z : Zx T}
open PySem PySem.Spec PyProof.Rows L2
open Evl (Ex)
end DL

namespace DL
variable {T : List (PySem.Addr × PySem.Str)} {Z : Zx T}
open PySem PySem.Spec PyProof.Rows L2 PySem.W
open Evl (Ex)
section
variable {X : Cx} {a : Expr} {wa : DE} {p pos : Pos}
end
end DL

namespace DL
variable {T : List (PySem.Addr × PySem.Str)} {Z : Zx T}
open PySem PySem.Spec PyProof.Rows L2 PySem.W
open Evl (Ex)
section
variable {X : Cx} {e : Expr} {te : TE} {p apos cpos pos : Pos}
end
section
variable {K : PySem.W.Frag} {g : Gx Z} {env : List SD} {σ : L2.St}
end
section
variable {X : Cx} {a : Expr} {wa : DE} {p apos cpos pos : Pos}
end
end DL

namespace DL
variable {T : List (PySem.Addr × PySem.Str)} {Z : Zx T}
open PySem PySem.Spec PyProof.Rows L2 PySem.W
open Evl (Ex)
section
variable {X : Cx} {a b : Expr} {was : DA} {pos : Pos}
end
end DL

namespace DL
open PySem PySem.Spec PyProof.Rows L2
section
variable {K : PySem.W.Frag} {g : Addr → Option Obj} {n : Nat} {o : Option Obj}
theorem lamF_eq (ho : K.lookup mainGlobals = o) (hk : ∀ a, K.lookup a = kG g n a) (lam : List ((Str × Option Str) × Str)) : lamG K g lam = lamF K g n o lam := by
  unfold lamG lamF tabsOf
  have e1 : lamOne K g = fun p => match tabFX K g n o p.1 with
    | some (c, P) => codeHdF g n c P && isTab (g P)
    | none => false := funext fun p => by
    unfold lamOne
    rw [tabFX_eq ho hk]
    cases tabFX K g n o p.1 with
    | none => rfl
    | some z =>
      obtain ⟨c, P⟩ := z
      dsimp only
      rw [codeHdF_eq hk]
  have e2 : (fun p : (Str × Option Str) × Str => (tabX K p.1).map fun z => (z.2, p.2)) = fun p => (tabFX K g n o p.1).map fun z => (z.2, p.2) := funext fun p => by rw [tabFX_eq ho hk]
  rw [e1, e2]
  all_goals rfl
end
theorem obsF_ok {n : Nat} {fa : List He.Fa} {fn : List He.FnD} {fx : List Fx} {lam : List ((Str × Option Str) × Str)} {g : Addr → Option Obj} (e : obsF n fa fn fx lam g = (He.valE fn, true, true, true)) :
    He.SaysE fa fn (kAll g n (hotX g n (kG g n mainGlobals) fx)) ∧ sysB g = true ∧ FxSays fx (kAll g n (hotX g n (kG g n mainGlobals) fx)) ∧ lamG (kAll g n (hotX g n (kG g n mainGlobals) fx)) g lam = true := by
  have e1 := congrArg (fun z : He.Al × Bool × Bool × Bool => z.1.1) e
  have e2 := congrArg (fun z : He.Al × Bool × Bool × Bool => z.1.2) e
  have e3 := congrArg (fun z : He.Al × Bool × Bool × Bool => z.2.1) e
  have e4 := congrArg (fun z : He.Al × Bool × Bool × Bool => z.2.2.1) e
  have e5 := congrArg (fun z : He.Al × Bool × Bool × Bool => z.2.2.2) e
  obtain ⟨f1, f2⟩ := He.ba (show (hotOk g n (hotX g n (kG g n mainGlobals) fx) && _) = true from e1)
  obtain ⟨f3, f4⟩ := He.ba f2
  have hk := kAll_look f1
  have ho := hk mainGlobals
  refine ⟨?_, e3, ?_, ?_⟩
  · unfold He.SaysE He.obsE He.valE
    have a1 : (fa.all fun f => f.ok (kAll g n (hotX g n (kG g n mainGlobals) fx))) = true := List.all_eq_true.mpr fun f hf => faF_ok ho hk (List.all_eq_true.mp f3 f hf)
    have a2 : (fn.all fun d => (He.Fa.code d.at_ d.qual).ok (kAll g n (hotX g n (kG g n mainGlobals) fx))) = true := List.all_eq_true.mpr fun d hd => by
      rw [dcF_eq ho hk]
      exact List.all_eq_true.mp f4 d hd
    have a3 : (fn.map fun d => He.fnObs (kAll g n (hotX g n (kG g n mainGlobals) fx)) d.at_) = fn.map He.FnD.val := by
      rw [show (fun d : He.FnD => He.fnObs (kAll g n (hotX g n (kG g n mainGlobals) fx)) d.at_) = dvF (kAll g n (hotX g n (kG g n mainGlobals) fx)) g n (kG g n mainGlobals) from funext fun d => dvF_eq ho hk d]
      exact e2
    rw [a1, a2, a3]
    rfl
  · exact List.all_eq_true.mpr fun f hf => fxF_ok ho hk (List.all_eq_true.mp e4 f hf)
  · rw [lamF_eq ho hk]
    exact e5
theorem lamG_saysF {n : Nat} {hot : List Addr} {lam : List ((Str × Option Str) × Str)} {h : Heap} (ht : hotOk h.get? n hot = true) (e : lamG (kAll h.get? n hot) h.get? lam = true) : LamSays lam (kAll h.get? n hot) h := by
  obtain ⟨e1, e2⟩ := He.ba e
  refine ⟨fun p hp => ?_, fun p hp q hq => ?_⟩
  · have z := List.all_eq_true.mp e1 p hp
    unfold lamOne at z
    split at z
    · rename_i c P hc
      obtain ⟨z1, z2⟩ := He.ba z
      refine ⟨c, P, hc, PySem.W.codeHd_of_K He.frG_in z1, isTab_ok z2, ?_⟩
      rw [kAll_look ht]
      unfold kG
      cases Nat.blt P n with
      | false => rfl
      | true =>
        cases q : h.get? P with
        | none => rfl
        | some o =>
          rw [q] at z2
          simp [z2]
    · cases z
  · exact of_decide_eq_true (List.all_eq_true.mp (List.all_eq_true.mp e2 p hp) q hq)
theorem obsF_hot {n : Nat} {fa : List He.Fa} {fn : List He.FnD} {fx : List Fx} {lam : List ((Str × Option Str) × Str)} {g : Addr → Option Obj} (e : obsF n fa fn fx lam g = (He.valE fn, true, true, true)) : hotOk g n (hotX g n (kG g n mainGlobals) fx) = true :=
  (He.ba (show (hotOk g n (hotX g n (kG g n mainGlobals) fx) && _) = true from congrArg (fun z : He.Al × Bool × Bool × Bool => z.1.1) e)).1
def hookF (n : Nat) (fa : List He.Fa) (fn : List He.FnD) (fx : List Fx) (lam : List ((Str × Option Str) × Str)) : PySem.W.Hook where
  α := He.Al × Bool × Bool × Bool
  obs := fun s => obsF n fa fn fx lam s.heap.get?
  val := fun _ => (He.valE fn, true, true, true)
  says := fun _ h => (∃ K : PySem.W.Frag, K.In h ∧ He.SaysE fa fn K ∧ FxSays fx K ∧ LamSays lam K h) ∧ SysD h
  of := fun w s e => let x := obsF_ok e; ⟨⟨_, He.frG_in, x.1, x.2.2.1, lamG_saysF (obsF_hot e) x.2.2.2⟩, sysB_of x.2.1⟩
  keeps := fun w h h' ⟨⟨K, hK, c, cx, cl⟩, o, es, ep, e, d⟩ k => ⟨⟨K, PySem.W.Frag.In.keeps hK k, c, cx, cl.keeps k⟩, o, es, ep, k _ _ e, d⟩
theorem obsF_eq {n : Nat} {fa : List He.Fa} {fn : List He.FnD} {fx : List Fx} {lam : List ((Str × Option Str) × Str)} {g : Addr → Option Obj} {s : Shared} (h : ∀ a, g a = s.heap.get? a) : obsF n fa fn fx lam g = (hookF n fa fn fx lam).obs s := by
  have e : g = s.heap.get? := funext h
  rw [e] <;> rfl
end DL

namespace DL
variable {T : List (PySem.Addr × PySem.Str)} {Z : Zx T}
open PySem PySem.Spec PyProof.Rows L2 PySem.W
open Evl (Ex)
section
variable {K : PySem.W.Frag} {F F1 F2 : Hp}
end
section
variable {K : PySem.W.Frag} {g : Gx Z} {F F2 : Hp} {env : List SD} {σ : L2.St} {H : Hp}
end
section
variable {X : Cx} {e : Expr}
end
end DL

namespace DL
open PySem PySem.Spec PyProof.Rows L2 HotX

section
variable {prog : Program} {w : World} {A : Around} {E : Value → Shared → Prop} {s : Shared}
end
end DL

namespace DL
variable {T : List (PySem.Addr × PySem.Str)} {Z : Zx T}
open PySem PySem.Spec PyProof.Rows L2 HotX
open Evl (Ex)
/-- the caught one, tracked -/
abbrev XC (C e : Addr) : HO := .ext (ExcAt C e)
/-- an iterator beside the caught one -/
def ItH (J : It) (C e : Addr) : It := ⟨fun i H => J.go i H ∧ H e = some (XC C e), fun i H x H' => J.yld i H x H' ∧ H' e = some (XC C e), fun i H => J.stop i H ∧ H e = some (XC C e)⟩
structure TurnH (P : Program) (w : World) (K : PySem.W.Frag) (tg : Expr) (J : It) (fp : List Addr) (it : Addr) (tn : Nat → Heap → Prop) (C e : Addr) : Prop where
  mem : it ∈ fp
  obj : ∀ i h, tn i h → ∀ b ∈ fp, ∃ o, h.get? b = some o ∧ ∀ v, o.data ≠ .cell v
  keep : ∀ i h h', tn i h → (∀ b ∈ fp, ∀ o, h.get? b = some o → h'.get? b = some o) → tn i h'
  item : ∀ (X : Cx), X.prog = P → X.w = w → X.K = K → ∀ (i : Nat) (pins : List (Addr × Obj)) (s : Shared) (σ : L2.St) (H : Hp) (E : Value → Shared → Prop), Inv X pins σ H s → (∀ b ∈ fp, FpOk X pins H b) → tn i s.heap → J.go i H →
    wpAny (model P w) X.A (pyNext (.ref it)) (fun r s1 => ∃ u, r = some u ∧
      wpAny (model P w) X.A (letOwnedTupleGo tg (.ref it) u) (fun _ s2 => ∃ x H', Inv X pins σ H' s2 ∧ RelV x u ∧ J.yld i H x H' ∧ tn (i + 1) s2.heap ∧ ∀ b ∈ fp, H' b = none) E s1) E s
  done : ∀ (X : Cx), X.prog = P → X.w = w → X.K = K → X.A.handled = some (.ref e) → ∀ (i : Nat) (pins : List (Addr × Obj)) (s : Shared) (σ : L2.St) (H : Hp) (E : Value → Shared → Prop), Inv X pins σ H s → (∀ b ∈ fp, FpOk X pins H b) → tn i s.heap → J.stop i H → H e = some (XC C e) →
    wpAny (model P w) X.A (pyNext (.ref it)) (fun r s1 => r = none ∧ Inv X pins σ H s1) E s
  self : ∀ (A : Around) (i : Nat) (s : Shared) (Q : Value → Shared → Prop) (E : Value → Shared → Prop), tn i s.heap → Q (.ref it) s → wpAny (model P w) A (pyIter (.ref it)) Q E s
  has : ∀ i H x H', J.yld i H x H' → H e = some (XC C e) → H' e = some (XC C e)
def PIEH (X : Cx) (pins : List (Addr × Obj)) (σ : L2.St) (tg : Expr) (R : It → Hp → Prop) (C e : Addr) (itv : Value) (s2 : Shared) : Prop :=
  ∃ (it : Addr) (fp : List Addr) (tn : Nat → Heap → Prop) (J : It) (H' : Hp), itv = .ref it ∧ Inv X pins σ H' s2 ∧ TurnH X.prog X.w X.K tg J fp it tn C e ∧ tn 0 s2.heap ∧ (∀ b ∈ fp, FpOk X pins H' b) ∧ R (ItH J C e) H'
structure PIH (X : Cx) (tg iter : Expr) (wi : TI) (C e : Addr) : Prop where
  run : ∀ (pins : List (Addr × Obj)) (s : Shared) (σ : L2.St) (H : Hp) (R : It → Hp → Prop), Inv X pins σ H s → wi σ H R →
    wpAny (model X.prog X.w) X.A (eval iter X.env) (fun v s1 => wpAny (model X.prog X.w) X.A (pyIter v) (PIEH X pins σ tg R C e) X.xe s1) X.xe s
structure PGH (X : Cx) (target : Expr) (t : TG) (C e : Addr) : Prop where
  run : ∀ (pins : List (Addr × Obj)) (s : Shared) (σ : L2.St) (H : Hp) (v : V) (u : Value) (Q : L2.St → Hp → Prop), Inv X pins σ H s → H e = some (XC C e) → RelV v u → t v σ H Q →
    wpAny (model X.prog X.w) X.A (assign target X.env u) (fun _ s' => ∃ σ' H', Inv X pins σ' H' s' ∧ Q σ' H') X.xe s
section
variable {X : Cx} {pins : List (Addr × Obj)} {σ : L2.St} {H : Hp} {s : Shared}
end
theorem WalkD.hot {K : PySem.W.Frag} {b : Bool} {F : Hp} {J : It} {items : List PyData} {C e : Addr} (w : WalkD K b F J items) (hF : F e = some (XC C e)) : WalkD K b F (ItH J C e) items := by
  obtain ⟨G, Y, wk, hG, hY⟩ := w
  exact ⟨fun H => G H ∧ H e = some (XC C e), Y, ⟨fun i H hi q => ⟨wk.goes i H hi q.1, q.2⟩, fun H q => ⟨wk.stops H q.1, q.2⟩, fun i H x H' hi q y => wk.yields i H x H' hi q.1 y.1⟩, fun H e => ⟨hG H e, e _ _ hF⟩, hY⟩
section
variable {X : Cx} {a b : Expr} {was : DA} {pos : Pos}
end
section
variable {X : Cx} {elt tg iter : Expr} {ifs : List Expr} {scope : Scope} {own : List (Str × Nat)} {pos : Pos} {wi : DI} {t : CT} {c : DT} {we : DE} {m : Nat} {I S : Type} {dec : List SD → Option (I × S)} {emb : I → S → List SD} {qb : PyData → I → S → (I → S → Prop) → (PyData → I → S → Prop) → Prop}
end
end DL

namespace DL
variable {T : List (PySem.Addr × PySem.Str)} {Z : Zx T}
open PySem PySem.Spec PyProof.Rows L2
open Evl (Ex)
section
variable {X : Cx} {m i : Nat} {pos pos' np : Pos} {n : Str} {body suite : List Stmt} {b₀ : Stmt} {wb : RD → DS} {ws : DS}
end
/-- the caught one is fixed at the call -/
def HotF (A : Around) (F : Hp) : Prop := ∃ e C, A.handled = some (.ref e) ∧ F e = some (XC C e)
def spDH (A : Around) (T : List (Addr × Str)) (K : PySem.W.Frag) (S : DSp) (vs : List V) (H : Hp) (Q : VK) : Prop := ∃ (F : Hp) (as : List SD) (P : SD → List SD → Prop), HotF A F ∧ ArgsOk T K F H vs as ∧ S as P ∧
  ∀ r as' v F' H', P r as' → PostOk T K F H vs as F' H' as' v r → Q v H'
/-- as FnG, while a refusal is handled -/
structure FnC (P : Program) (w : World) (K : PySem.W.Frag) (mg : Str → Option Value) (base : Heap) (T : List (Addr × Str)) (k : Nat) (f : Addr) (fd : FuncData) (ps : List Str) (S : DSp) : Prop where
  len : ∀ as Q, S as Q → as.length = ps.length
  go : ∀ (A : Around) (outer : List Env) (s : Shared) (H : Hp) (args : Args) (us : List Value) (vs : List V) (Q : VK), L2H.RoomH k A → A.guards = some [] → Env0 P w K mg base A outer s H →
    BindsTo s fd args (ps.zip us) → Vals vs us → spDH A T K S vs H Q → codeAny (model P w) A (.call (.ref f) args) (CR CX0 outer P w H s Q E0) s
structure DnC (P : Program) (w : World) (K : PySem.W.Frag) (mg : Str → Option Value) (base : Heap) (T : List (Addr × Str)) (x : Str) (k : Nat) (ps : List Str) (S : DSp) : Prop where
  ex : ∃ fd, FnC P w K mg base T k (He.ga K x) fd ps S ∧ Binds K fd ps []
  glo : mg x = some (.ref (He.ga K x))
  kp : PySem.W.keepIn K (.ref (He.ga K x)) = true
section
variable {P : Program} {w : World} {K : PySem.W.Frag} {mg : Str → Option Value} {base : Heap}
end
section
variable {X : Cx} {k : Nat} {f : Addr} {fd : FuncData} {ps : List Str} {S : DSp} {x : Str} {p pos : Pos} {e : Expr} {es : List Expr} {was : DA}
end
end DL

namespace RZ3A
open PySem RZ
open PySem.Sem (wp)
section
variable {prog : Program} {w : World} {A : Around} {E : Value → Shared → Prop} {s : Shared}
end

section
variable {prog : Program} {w : World} {A : Around} {E : Value → Shared → Prop} {s : Shared}

end
end RZ3A
namespace DL
variable {T : List (PySem.Addr × PySem.Str)} {Z : Zx T}
open PySem PySem.Spec PyProof.Rows L2 RZ3A
open Evl (Ex)
section
variable {X : Cx} {a b : Expr} {was : DA} {pos : Pos}
end
end DL

namespace DL
variable {T : List (PySem.Addr × PySem.Str)} {Z : Zx T}
open PySem PySem.Spec PyProof.Rows L2
open Evl (Ex)
end DL

namespace DL
variable {T : List (PySem.Addr × PySem.Str)} {Z : Zx T}
open PySem PySem.Spec PyProof.Rows L2
open Evl (Ex)
section
variable {X : Cx} {k : Nat} {y : Str} {p pos : Pos} {e : Expr} {es : List Expr} {was : DA}
end
end DL

namespace DL
variable {T : List (PySem.Addr × PySem.Str)} {Z : Zx T}
open PySem PySem.Spec PyProof.Rows L2
open Evl (Ex)
section
variable {X : Cx} {a b c d : Expr} {pos : Pos}
end
end DL

namespace DL
variable {T : List (PySem.Addr × PySem.Str)} {Z : Zx T}
open PySem PySem.Spec PyProof.Rows L2
open Evl (Ex)
section
variable {X : Cx} {a : Expr} {wa : DE}
end
end DL

namespace DL
variable {T : List (PySem.Addr × PySem.Str)} {Z : Zx T}
open PySem PySem.Spec PyProof.Rows L2 PySem.W
open Evl (Ex)
section
variable {X : Cx} {a : Expr} {wa : DE} {p p2 pos pos2 : Pos}
end
end DL

namespace DL
variable {T : List (PySem.Addr × PySem.Str)} {Z : Zx T}
open PySem PySem.Spec PyProof.Rows L2
open Evl (Ex)
section
variable {P : Program} {w : World} {K : PySem.W.Frag} {mg : Str → Option Value} {base : Heap}
end
end DL

namespace DL
open PySem PySem.Spec PyProof.Rows
namespace F
theorem lk_fun_class : typeLookup (.type "function") "__class__" = pure (some (.builtin "object.__class__")) := by rw [typeLookup_type, builtinLookup_eq_fast]; kernel_rfl
theorem sub_fun_class_owner : isSubtype (.type "function") (.type (".".intercalate ("object.__class__".cutAt '.').dropLast)) = pure true := by
  rw [PySem.F.owner_object_class, isSubtype_type]; kernel_rfl
theorem slot_fun_getattribute : Slot "function" "__getattribute__" "object.__getattribute__" :=
  .of (owner := "object") (n := "__getattribute__") (by rw [typeLookup_type, builtinLookup_eq_fast]; kernel_rfl) (by decide +kernel) (by decide +kernel) (by decide +kernel)
    (by first | exact .inl (by decide +kernel) | exact .inr (by decide +kernel)) (by rw [isSubtype_type]; kernel_rfl)
end F
section
variable {prog : Program} {w : World} {A : Around} {E : Value → Shared → Prop} {h : Heap} {g : Array GenState} {d : Drawn} {t : Nat} {os : OsState} {a : Addr} {o : Obj}
theorem class_get_fun {R : Result → Shared → Prop} (hx : h.get? a = some o) (hc : o.cls = .type "function") (hq : R (.ok (.ret (.type "function"))) ⟨h, g, d, t, os⟩) :
    codeAny (model prog w) A (.call (.builtin "getset_descriptor.__get__") ⟨[.builtin "object.__class__", .ref a, .type "function"], []⟩) R ⟨h, g, d, t, os⟩ := by
  have hT : (⟨h, g, d, t, os⟩ : Shared).TypeIs (.ref a) "function" := ⟨_, hx, hc⟩
  have hT5 : (⟨h, g, d, t, os⟩ : Shared).TypeIs (.builtin "object.__class__") "getset_descriptor" := PySem.F.typeOf_object_class
  have f8 := F.sub_fun_class_owner
  refine codeAny_call_builtin PySem.F.slot_gs_get.plain PySem.F.entry_gs_get (PySem.F.slot_gs_get.check _ _ _ _ _ _ _ _ hT5 (PySem.F.args_gs_get _ _ _) ?_)
  repeat (any_goals (first | assumption | wp_step))
  refine ⟨Code.quiet_builtin _ (by decide +kernel), codeAny_builtin PySem.F.entry_object_class ?_⟩
  repeat (any_goals (first | assumption | wp_step))
theorem class_entry_fun {tk : Tok} {Q : Fin → Shared → Prop} (hx : h.get? a = some o) (hc : o.cls = .type "function") (hq : Q (.done (.ret (.type "function"))) ⟨h, g, d, t, os⟩) :
    wpAny (model prog w) A (Builtin.«object.__getattribute__» ⟨[.ref a, .str "__class__" tk], []⟩) Q E ⟨h, g, d, t, os⟩ := by
  have hT : (⟨h, g, d, t, os⟩ : Shared).TypeIs (.ref a) "function" := ⟨_, hx, hc⟩
  have hT5 : (⟨h, g, d, t, os⟩ : Shared).TypeIs (.builtin "object.__class__") "getset_descriptor" := PySem.F.typeOf_object_class
  have f4 := F.lk_fun_class
  have f5 := PySem.F.typeOf_object_class
  have f6 := PySem.F.slot_gs_get.lookup
  have f7 := PySem.F.slot_gs_set.lookup
  repeat (any_goals (first | assumption | wp_step))
  refine class_get_fun hx hc ?_
  repeat (any_goals (first | assumption | wp_step))
theorem class_call_fun {tk : Tok} {R : Result → Shared → Prop} (hx : h.get? a = some o) (hc : o.cls = .type "function") (hq : R (.ok (.ret (.type "function"))) ⟨h, g, d, t, os⟩) :
    codeAny (model prog w) A (.call (.builtin "object.__getattribute__") ⟨[.ref a, .str "__class__" tk], []⟩) R ⟨h, g, d, t, os⟩ :=
  codeAny_call_builtin F.slot_fun_getattribute.plain PySem.F.entry_object_getattribute (F.slot_fun_getattribute.check _ _ _ _ _ _ _ _ (show (⟨h, g, d, t, os⟩ : Shared).TypeIs (.ref a) "function" from ⟨_, hx, hc⟩) (PySem.F.args_object_getattribute_2 _ _) (class_entry_fun hx hc hq))
theorem class_by_fun {tk : Tok} {Q : Value → Shared → Prop} (hx : h.get? a = some o) (hc : o.cls = .type "function") (hq : Q (.type "function") ⟨h, g, d, t, os⟩) : wpAny (model prog w) A (getAttrBy (.ref a) (.str "__class__" tk) false) Q E ⟨h, g, d, t, os⟩ := by
  have hT : (⟨h, g, d, t, os⟩ : Shared).TypeIs (.ref a) "function" := ⟨_, hx, hc⟩
  have f2 := F.slot_fun_getattribute.lookup
  have f3 := F.slot_fun_getattribute.bind (.ref a)
  repeat (any_goals (first | assumption | wp_step))
  refine class_call_fun hx hc ?_
  repeat (any_goals (first | assumption | wp_step))
theorem class_attr_fun {Q : Option Value → Shared → Prop} (hx : h.get? a = some o) (hc : o.cls = .type "function") (hq : Q (some (.type "function")) ⟨h, g, d, t + 1, os⟩) : wpAny (model prog w) A (getAttr? (.ref a) "__class__") Q E ⟨h, g, d, t, os⟩ := by
  unfold getAttr? getAttrBy?
  repeat (any_goals (first | assumption | with_reducible apply class_by_fun hx hc | wp_step))
end
theorem kitx_fun {K : PySem.W.Frag} {a : Addr} : PySem.W.KitX K (.ref a) (.type "function") (PySem.W.KitAt a "function") := PySem.W.kitx_of PySem.W.kitAt_ty (fun {_ _ _ _ _ s} p k => by obtain ⟨h, g, d, t, os⟩ := s; obtain ⟨o, h1, h2⟩ := p; exact class_attr_fun h1 h2 k)
end DL

namespace DL
variable {T : List (PySem.Addr × PySem.Str)} {Z : Zx T}
open PySem PySem.Spec PyProof.Rows L2
open Evl (Ex)
theorem kit_fun {K : PySem.W.Frag} : ∀ T ∈ exTypes, PySem.W.kitOne K (.type "function") (.type T) = some false := by
  have h : ∀ T ∈ exTypes, kitB "function" T = some false := by decide +kernel
  intro T hT
  exact kit_ty (h T hT)
/-- a def of the module, to be taken as a datum -/
def CtF (K : PySem.W.Frag) (mg : Str → Option Value) (x : Str) : Prop := mg x = some (.ref (He.ga K x)) ∧ fncO (K.lookup (He.ga K x)) = true
theorem TopX.fnc {fa : List He.Fa} {fn : List He.FnD} {fx : List Fx} {K : PySem.W.Frag} {mg : Str → Option Value} (T : TopX fa fn fx K mg) (x : Str) (i : Nat) (h : fx[i]? = some (.fnc x) := by rfl) : CtF K mg x := by
  obtain ⟨hp, h1, h2⟩ := T.ns
  obtain ⟨c1, c2⟩ := He.ba (show (He.eqO (PySem.W.nsIn K mainGlobals x) (some (some (.ref (He.ga K x)))) && fncO (K.lookup (He.ga K x))) = true from T.fact i h)
  exact ⟨PySem.W.mg_of h1 h2 (He.eqO_ok c1), c2⟩
section
variable {X : Cx} {pos : Pos}
end
end DL

namespace DL
variable {T : List (PySem.Addr × PySem.Str)} {Z : Zx T}
open PySem PySem.Spec PyProof.Rows L2
open Evl (Ex)
section
variable {X : Cx} {a e : Expr} {wa we : DE} {apos pos : Pos}
end
end DL

namespace DL
variable {T : List (PySem.Addr × PySem.Str)} {Z : Zx T}
open PySem PySem.Spec PyProof.Rows L2
open Evl (Ex)
/-- the items of xs[lo:hi:st] -/
def stepL {α : Type} (xs : List α) (lo hi st : Option Int) : List α :=
  (sliceRange (sliceBounds lo hi st xs.length).1 (sliceBounds lo hi st xs.length).2.1 (sliceBounds lo hi st xs.length).2.2).filterMap (xs[·]?)
section
variable {X : Cx} {e : Expr} {we : DE} {te : TE} {lo hi st : Option Expr} {tl th ts : TO} {pos p2 : Pos}
/-- such a slice, as a new cell -/
def stepQ (x : PyData) (lo hi st : Option Int) (K : List PyData → Prop) : Prop := match x with
  | .list ds => st ≠ some 0 ∧ K (stepL ds lo hi st)
  | _ => False
end
end DL

namespace DL
variable {T : List (PySem.Addr × PySem.Str)} {Z : Zx T}
open PySem PySem.Spec PyProof.Rows L2
open Evl (Ex)
section
variable {X : Cx} {m : Nat} {e b1 b2 : Expr} {we w1 w2 : DE} {pos : Pos}
end
end DL

namespace DL
variable {T : List (PySem.Addr × PySem.Str)} {Z : Zx T}
open PySem PySem.Spec PyProof.Rows L2 PySem.W
open Evl (Ex)
section
variable {X : Cx} {pins : List (Addr × Obj)} {σ : L2.St} {H : Hp} {s : Shared}
theorem lam_make4 {c P : Addr} {params : Arguments} {body : Expr} {scope : Scope} {pos : Pos} {cl : List (Str × Addr)} {E : Value → Shared → Prop} {Q : Value → Shared → Prop} (I : Inv X pins σ H s) (TB : LamX.TabB X.base X.mg c P) (hcode : X.env.code = .ref c)
    (hm : (P, X.env.qual ++ "<lambda>") ∈ T) (hu : ∀ p ∈ T, p.1 = P → p.2 = X.env.qual ++ "<lambda>") (hT : LamX.Tabs T H) (hdef : defaultsOf params X.env = ([], [])) (hcl : closureFor scope X.env = pure cl)
    (h : ∀ (f c' : Addr) (pm ctv : Value) (H1 : Hp) (s' : Shared), Inv X pins σ H1 s' → Grown T H H1 →
      s'.heap.get? f = some (kla_obj "<lambda>" (X.env.qual ++ "<lambda>") params body scope cl pm c' ctv) → H1 f = none → f ∉ frs X.stack → H1 c' = some (LamX.CodeO c' (X.env.qual ++ "<lambda>")) → s.heap.objs.size ≤ f → Q (.ref f) s') :
    wpAny (model X.prog X.w) X.A (eval (.Lambda params body scope pos) X.env) Q E s := by
  obtain ⟨ps, hP, ht, ha⟩ := hT _ hm
  have bP : s.heap.BuiltinsAt X.mg P := TB.bm.keeps I.bk
  have oP : s.heap.get? P = some { cls := .none, data := .fields ps } := I.hok P _ hP
  have nofr : ∀ f, s.heap.objs.size ≤ f → f ∉ frs X.stack := fun f hf z => by
    rcases List.mem_cons.mp (I.stkSub _ z) with e | e
    · have h1 := I.lt
      rw [← e] at h1
      exact Nat.lt_irrefl _ (Nat.lt_of_lt_of_le h1 hf)
    · exact I.nofs hf e
  refine kla_eval hdef ?_
  cases hc : codeAmong pos ps.toList with
  | some cv =>
    obtain ⟨c', rfl, hco⟩ := ha pos cv hc
    refine kla_makeFunctionHit (mg := X.mg) (c := c) (P := P) (ps := ps) hcl I.ok.glob (I.mod.glob.keeps I.bk) hcode (TB.code.keeps I.bk) oP ht hc bP fun ctv h' tk hx hsz => ?_
    exact h h'.objs.size c' ((X.mg "__name__").getD .none) ctv H _ (I.kept (t' := tk) fun b o e => Heap.get?_push_of_some _ (hx b o e)) ⟨fun b o e => .inl e, hT⟩ (Heap.get?_push_size _ rfl) (I.hok.fresh hsz) (nofr _ hsz) hco hsz
  | none =>
    refine kla_makeFunction (mg := X.mg) (c := c) (P := P) (ps := ps) hcl I.ok.glob (I.mod.glob.keeps I.bk) hcode (TB.code.keeps I.bk) oP ht hc TB.gP bP fun c' ctv h' tk hx hge hlt hrec htb => ?_
    obtain ⟨c2, oc, vs, t, e2, o1, o2, o3⟩ := hrec
    cases e2
    have nC : H c' = none := I.hok.fresh hge
    have hsz : s.heap.objs.size ≤ h'.objs.size := Nat.le_trans hge (Nat.le_of_lt hlt)
    have nF : upd (upd H P (.tbl (ps ++ #[rawInt pos.line, rawInt pos.col, .ref c']))) c' (LamX.CodeO c' (X.env.qual ++ "<lambda>")) h'.objs.size = none := by
      have n1 : h'.objs.size ≠ c' := Nat.ne_of_gt hlt
      have n2 : h'.objs.size ≠ P := Nat.ne_of_gt (Nat.lt_of_lt_of_le (Heap.lt_size oP) hsz)
      rw [upd_ne n1, upd_ne n2]
      exact I.hok.fresh hsz
    obtain ⟨ob, hob⟩ : ∃ ob, kla_obj "<lambda>" (X.env.qual ++ "<lambda>") params body scope cl ((X.mg "__name__").getD .none) c' ctv = ob := ⟨_, rfl⟩
    have old : ∀ b o, h'.get? b = some o → (h'.push ob).get? b = some o := fun b o e => Heap.get?_push_of_some _ e
    have J := LamX.inv_table (t' := tk) (more := #[rawInt pos.line, rawInt pos.col, .ref c']) (h' := h'.push ob) I hP (fun b o hb e => old _ _ (hx b o hb e)) (old _ _ htb) hge ⟨oc, vs, t, old _ _ o1, o2, o3⟩
    refine h h'.objs.size c' ((X.mg "__name__").getD .none) ctv _ _ (by rw [hob]; exact J) ⟨fun b o e => ?_, fun p hp => ?_⟩ (Heap.get?_push_size _ rfl) nF (nofr _ hsz) upd_same hsz
    · have nb := ne_of_none e nC
      by_cases z : b = P
      · subst z
        rw [hP] at e
        cases e
        exact .inr ⟨ps, _, rfl, by rw [upd_ne nb, upd_same]⟩
      · exact .inl (by rw [upd_ne nb, upd_ne z]; exact e)
    · have cod : ∀ {c0 : Addr} {q : Str}, H c0 = some (LamX.CodeO c0 q) → upd (upd H P (.tbl (ps ++ #[rawInt pos.line, rawInt pos.col, .ref c']))) c' (LamX.CodeO c' (X.env.qual ++ "<lambda>")) c0 = some (LamX.CodeO c0 q) := fun {c0 q} e => by
        rw [upd_ne (ne_of_none e nC), upd_ne fun z => by rw [z, hP] at e; exact LamX.codeO_ne ps (Option.some.inj e).symm]
        exact e
      by_cases hb : p.1 = P
      · rw [hu p hp hb, hb]
        refine ⟨ps ++ #[rawInt pos.line, rawInt pos.col, .ref c'], by rw [upd_ne (ne_of_none hP nC), upd_same], ?_, fun p' cv hcv => ?_⟩
        · rw [Array.toList_append]
          exact TriplesOk_snoc _ _ _ _ ht
        · rw [Array.toList_append] at hcv
          rcases LamX.among_app _ ht hcv with z | z
          · obtain ⟨c0, e1, e2⟩ := ha p' cv z
            exact ⟨c0, e1, cod e2⟩
          · exact ⟨c', z, upd_same⟩
      · obtain ⟨ps', a1, a2, a3⟩ := hT p hp
        refine ⟨ps', by rw [upd_ne (ne_of_none a1 nC), upd_ne hb]; exact a1, a2, fun p' cv hcv => ?_⟩
        obtain ⟨c0, e1, e2⟩ := a3 p' cv hcv
        exact ⟨c0, e1, cod e2⟩
end
section
variable {X : Cx} {pins : List (Addr × Obj)} {σ : L2.St} {H HZ : Hp} {s s1 : Shared}
end
/-- the captured names' data, all else forgotten -/
def datOf (env : List SD) : List SD := env.map fun | .dat d => .dat d | _ => .un
theorem datOf_get {env : List SD} {i : Nat} {r : SD} (h : (datOf env)[i]? = some r) : r = .un ∨ ∃ d, r = .dat d ∧ env[i]? = some (.dat d) := by
  unfold datOf at h
  rw [List.getElem?_map] at h
  cases e : env[i]? with
  | none => rw [e] at h; cases h
  | some x =>
    rw [e] at h
    cases x with
    | dat d => cases h; exact .inr ⟨d, rfl, rfl⟩
    | un => cases h; exact .inl rfl
    | cel p xs => cases h; exact .inl rfl
    | dic w => cases h; exact .inl rfl
section
variable {K : PySem.W.Frag} {g : Gx Z} {F F1 : Hp} {env : List SD} {σ : L2.St} {H H1 : Hp} {P : Program} {w : World}
end
/-- what a call without arguments tells, or refuses -/
abbrev DTh := (SD → Prop) → (Str → Prop) → Prop
/-- the function at u keeps the promise th, wherever it is called from now on (k: the room that it wants) -/
structure ThkOk (P : Program) (w : World) (K : PySem.W.Frag) (mg : Str → Option Value) (base : Heap) (T : List (Addr × Str)) (k : Nat) (fs : List Addr) (s : Shared) (F H : Hp) (u : Addr) (th : DTh) : Prop where
  got : ∀ (s1 : Shared) (F1 H1 : Hp), HOk P w H1 s1.heap → Ex F F1 → Ex F1 H1 → Un fs [] H H1 s.heap s1.heap → ∃ (oc : Value) (od : Option Addr) (fd : FuncData) (osl : Array (Option Value)), s1.heap.get? u = some ⟨oc, od, .func fd, osl⟩
  go : ∀ (A : Around) (outer : List Env) (s1 : Shared) (F1 H1 : Hp) (Q : VK) (E : XWish) (Pr : SD → Prop) (Er : Str → Prop), Room k A → A.guards = some [] → Env0 P w K mg base A outer s1 H1 → Un fs [] H H1 s.heap s1.heap →
    PostOk T K F H [] [] F1 H1 [] .non (.dat .none) → th Pr Er → (∀ r v F2 H2, Pr r → PostOk T K F1 H1 [] [] F2 H2 [] v r → Q v H2) → (∀ c F2 H2, Er c → XcF K c → PostOk T K F1 H1 [] [] F2 H2 [] .non (.dat .none) → E (.ref (He.ga K c)) none H2) →
    codeAny (model P w) A (.call (.ref u) ⟨[], []⟩) (CR (L2N.CX P w) outer P w H1 s1 Q E) s1
section
variable {X : Cx} {pins : List (Addr × Obj)} {σ : L2.St} {H : Hp} {s : Shared} {g : Gx Z} {F : Hp} {env : List SD}
end
abbrev DSpT := DTh → (SD → Prop) → Prop
structure FnT (P : Program) (w : World) (K : PySem.W.Frag) (mg : Str → Option Value) (base : Heap) (T : List (Addr × Str)) (k j : Nat) (f : Addr) (fd : FuncData) (a : Str) (S : DSpT) : Prop where
  go : ∀ (A : Around) (outer : List Env) (s : Shared) (H : Hp) (args : Args) (u : Addr) (th : DTh) (Q : VK) (F : Hp) (PP : SD → Prop), Room k A → A.guards = some [] → Env0 P w K mg base A outer s H →
    BindsTo s fd args [(a, .ref u)] → ArgsOk T K F H [] [] → ThkOk P w K mg base T j (frs outer) s F H u th → S th PP → (∀ r v F' H', PP r → PostOk T K F H [] [] F' H' [] v r → Q v H') →
    codeAny (model P w) A (.call (.ref f) args) (CR CX0 outer P w H s Q E0) s
structure DnT (P : Program) (w : World) (K : PySem.W.Frag) (mg : Str → Option Value) (base : Heap) (T : List (Addr × Str)) (x : Str) (k j : Nat) (a : Str) (S : DSpT) : Prop where
  ex : ∃ fd, FnT P w K mg base T k j (He.ga K x) fd a S ∧ Binds K fd [a] []
  glo : mg x = some (.ref (He.ga K x))
  kp : PySem.W.keepIn K (.ref (He.ga K x)) = true
section
variable {X : Cx} {k j : Nat} {x : Str} {a : Str} {S : DSpT} {p pos lpos : Pos} {params : Arguments} {body : Expr} {scope : Scope}
end
end DL

namespace DL
variable {T : List (PySem.Addr × PySem.Str)} {Z : Zx T}
open PySem PySem.Spec PyProof.Rows L2 PySem.W
open Evl (Ex)
section
variable {K : PySem.W.Frag} {F H F' H' : Hp} {vs : List V} {as as' : List SD} {v : V} {r : SD}
theorem PostOk.bare (p : PostOk T K F H vs as F' H' as' v r) (hc : NoCel as) : PostOk T K F H [] [] F' H' [] v r where
  ex := p.ex
  nt := p.nt
  fh := p.fh
  newF := p.newF
  frame := p.frame.weak fun a o e n i q xs z => absurd z (hc i q xs)
  cel := fun i p xs a e => by cases e
  res := p.res
theorem args_un {u : V} (h : ArgsOk T K F H [] []) : ArgsOk T K F H [u] [.un] where
  len := rfl
  fh := h.fh
  dat := fun i d e => by
    match i, e with
    | 0, e => cases e
    | _ + 1, e => cases e
  cel := fun i p xs e => by
    match i, e with
    | 0, e => cases e
    | _ + 1, e => cases e
  sep := fun i j p q xs ys a e => by
    match i, e with
    | 0, e => cases e
    | _ + 1, e => cases e
  nod := fun i w e => by
    match i, e with
    | 0, e => cases e
    | _ + 1, e => cases e
  tab := h.tab
  nt := h.nt
theorem no_cel_un : NoCel [SD.un] := fun i p xs e => by
  match i, e with
  | 0, e => cases e
  | _ + 1, e => cases e
end
section
variable {P : Program} {w : World} {K : PySem.W.Frag} {mg : Str → Option Value} {base : Heap}
theorem dfnT {x qual : Str} {st : Stmt} {f : Addr} {fd : FuncData} {N : List Str} {a : Str} {k j : Nat} {S : DSpT} (Fn : Fun K x qual st f fd) (sc : FnScope N [a] (defScope st))
    (hbody : ∀ (F H : Hp) (cdv : Value) (A : Around) (outer : List Env) (s : Shared) (u : Addr) (th : DTh), ThkOk P w K mg base T j (frs outer) s F H u th → Room k (A.deeper (envOfC qual (defScope st) s.heap.objs.size f cdv)) → (A.deeper (envOfC qual (defScope st) s.heap.objs.size f cdv)).guards = some [] →
      ∃ t : DS, PSs (cxOf CX0 P w K mg base N qual (defScope st) f cdv A outer s H E0).nox (defBody st) (fun D σ H' => σ[0]? = some (some (.ref u)) ∧ liftS K (entryZ T P w F H [.ref u] [.un]) 0 t D σ H') ∧
        ∀ PP, S th PP → t (defEnds 0 fun r _ => PP r) ([.un] ++ List.replicate (N.length - 1) .un)) : FnT P w K mg base T (k + 1) j f fd a S := by
  obtain ⟨oc, od, kV, doc, pm, an, cdv, ct, osl, rfl, lk, hcd⟩ := Fn.ex
  refine ⟨fun A outer s H args u th Q F0 PP hr hg e0 hb ha TH hS hQ => ?_⟩
  have hpl : 1 ≤ N.length := by
    have := congrArg List.length sc.pre
    rw [List.length_take] at this
    simp at this
    omega
  have KX : K.In s.heap := e0.mod.kin.keeps fun b o e => (e0.bs b o e).1
  refine codeAny_call_function hr.depth (KX _ _ lk) rfl sc.co sc.gen rfl (PySem.W.codeRec_of KX hcd) (hb _ _ _ _ (wpAny_newFunctionEnv_cells sc.kind (fun ⟨n, v⟩ hy => ?_) fun env he s1 y => ?_))
  · have hy' : (n, v) ∈ [a].zip [Value.ref u] := hy
    rcases sc.par n (List.of_mem_zip hy').1 with q | q
    · exact .inl q
    · exact .inr ⟨q, PySem.W.cellsFrom_some _ _ _ (.inl q)⟩
  · subst he
    obtain ⟨t, ht, hq⟩ := hbody F0 H cdv A outer s u th TH (hr.deeper _) hg
    have I : Inv (cxOf CX0 P w K mg base N qual (defScope st) f cdv A outer s H E0) [] (start N [.ref u]) H s1 := inv_start (us := [.ref u]) sc hr.hd e0 rfl (.cons rfl .nil) y
    refine ⟨(e0.mod.nolimit.keeps fun b o e => (e0.bs b o e).1).keeps y.toInCall.keep, codeAny_func (wpAny_mono (ht.nox.run [] s1 (start N [.ref u]) H { nx := fun _ H' => Q .non H', rt := Q } I ?_) (fun fl s' hs => ?_) fun e s' hs => hs)⟩
    · refine ⟨start_get rfl, entryG T P w F0 H [.ref u] [.un], F0, _, _, entry_ok (ps := [a]) (args_un ha) rfl hpl, hq PP hS, ?_⟩
      exact .mk4 (.mk (fun env' σ' F' H' p _ k' => hQ _ _ _ _ p ((post_of (n := 0) (r := .dat .none) k' (fun i p xs e => absurd e (no_cel_un i p xs)) DR.non).bare no_cel_un)) (fun _ _ _ _ p => p.elim) (fun _ _ _ _ p => p.elim) (fun r env' v σ' F' H' p _ k' r' => hQ _ _ _ _ p ((post_of (n := 0) k' (fun i p xs e => absurd e (no_cel_un i p xs)) r').bare no_cel_un))) rfl
    · have fin : ∀ {σ' : L2.St} {H' : Hp} {v : V} {u' : Value}, Inv (cxOf CX0 P w K mg base N qual (defScope st) f cdv A outer s H E0) [] σ' H' s' → RelV v u' → Q v H' → CE outer P w H s Q u' s' :=
        fun {σ' H' v u'} J r q => ⟨v, H', J.os, J.bare, J.base, J.hok, r, q⟩
      match fl, hs with
      | .ret u, ⟨v, σ', H', J, r, q⟩ => exact fin J r q
      | .next, ⟨σ', H', J, q⟩ => exact fin (v := V.non) (u' := Value.none) J rfl q
      | .brk, ⟨_, _, _, q⟩ => exact q.elim
      | .cont, ⟨_, _, _, q⟩ => exact q.elim
end
/-- slot 0 holds the function -/
def liftSU (K : PySem.W.Frag) (Z : Zx T) (m : Nat) (u : Addr) (w : DS) : TS := fun D σ H => σ[0]? = some (some (.ref u)) ∧ liftS K Z m w D σ H
section
variable {X : Cx} {m : Nat} {u : Addr} {sts : List Stmt} {st : Stmt} {w w2 : DS} {e : Expr} {we : DE} {wx : DX} {pos : Pos}
/-- a statement that leaves slot 0 -/
def KeepU (X : Cx) (Z : Zx T) (m : Nat) (u : Addr) (st : Stmt) (w : DS) : Prop := PS X st fun D σ H => σ[0]? = some (some (.ref u)) ∧ liftS X.K Z m w { D with nx := fun σ' H' => σ'[0]? = some (some (.ref u)) → D.nx σ' H' } σ H
theorem suCons (h1 : KeepU X Z m u st w) (h2 : PSs X sts (liftSU X.K Z m u w2)) : PSs X (st :: sts) (liftSU X.K Z m u (dSeq w w2)) := PSs.of (pss_cons h1 h2) fun D σ H ⟨h0, g, F, env, P, k, w, q⟩ =>
  ⟨h0, g, F, env, _, k, w, ⟨⟨fun env' σ' F' H' p e k' z => ⟨z, g, F', env', P, k', p, q.ex e⟩, q.bk, q.ct, q.rt⟩, fun n => ⟨(q.free n).1, fun F2 => ⟨fun env' σ' F' H' p e k' z => ⟨z, g, F', env', P, k', p, q.any n F'⟩, ((q.free n).2 F2).bk, ((q.free n).2 F2).ct, ((q.free n).2 F2).rt⟩⟩⟩⟩
theorem suEnd (h1 : PS X st (liftSU X.K Z m u w)) (h2 : PSs X sts (liftS X.K Z m w2)) : PSs X (st :: sts) (liftSU X.K Z m u (dSeq w w2)) := PSs.of (pss_cons h1 h2) fun D σ H ⟨h0, g, F, env, P, k, w, q⟩ =>
  ⟨h0, g, F, env, _, k, w, ⟨⟨fun env' σ' F' H' p e k' => ⟨g, F', env', P, k', p, q.ex e⟩, q.bk, q.ct, q.rt⟩, fun n => ⟨(q.free n).1, fun F2 => ⟨fun env' σ' F' H' p e k' => ⟨g, F', env', P, k', p, q.any n F'⟩, ((q.free n).2 F2).bk, ((q.free n).2 F2).ct, ((q.free n).2 F2).rt⟩⟩⟩⟩
theorem ssetU (i : Nat) {x : Str} {pos' : Pos} (hi0 : i ≠ 0) (hN : X.N.Nodup) (he : PE X e (liftX X.K Z wx)) (hi : X.N[i]? = some x := by rfl) (hx : Loc X.env.scope x := by first | exact Or.inl rfl | exact Or.inr rfl) (hs : swapsWith e (some (.Name x pos')) pos.line X.env = pure false := by rfl)
    (hf : X.fn x = true ∨ X.env.scope.names.lookup x = some .local := by first | exact .inl rfl | exact .inr rfl) : KeepU X Z m u (.Assign [.Name x pos'] e pos) (dSet i wx) := PS.of (ps_set hN hi hx he hs hf) fun D σ H ⟨h0, g, F, env, P, k, w, q⟩ =>
  ⟨g, F, env, _, k, w, fun r env1 v F1 H1 p e1 k1 r1 => q.nx _ _ F1 H1 (bIf_and p).2 e1 (k1.setR (bIf_and p).1 (res_own r1) own_ne) (by rw [List.getElem?_set_ne hi0]; exact h0)⟩
end
section
variable {X : Cx} {m j : Nat} {u : Addr} {a : Str} {th : DTh} {F0 : Hp} {p1 p2 p3 : Pos} {Ed : RD}
abbrev dThkS (th : DTh) (Ed : RD) (E : DEnds) (env : List SD) : Prop := th (fun _ => E.nx env) fun c => Ed c env
theorem sthk (TH : ThkOk X.prog X.w X.K X.mg X.base T j X.fs X.s_0 F0 X.H_0 u th) (hr : Room j X.A) (hA : X.A.guards = some []) (tk : L2N.Takes X (liftW X.K Z Ed))
    (hpo : ∀ {g : Gx Z} {F1 : Hp} {env : List SD} {σ : L2.St} {H1 : Hp}, Ok X.K g F1 env σ H1 → PostOk T X.K F0 X.H_0 [] [] F1 H1 [] .non (.dat .none)) (hex : X.ex = [] := by rfl) (hN : X.N[0]? = some a := by rfl) (hv : Vis X.env.scope a := by first | exact Or.inl rfl | exact Or.inr (Or.inl rfl))
    (hd : (a == ("__debug__" : Str)) = false := by decide) (hcd : (a == ("__classdict__" : Str)) = false := by decide) (hs : swapsWith (.Call (.Name a p1) [] [] p2) none p3.line X.env = pure false := by rfl) :
    PS X (.Expr (.Call (.Name a p1) [] [] p2) p3) (liftSU X.K Z m u (dThkS th Ed)) := by
  have he : PE X (.Call (.Name a p1) [] [] p2) (fun σ H Q => σ[0]? = some (some (.ref u)) ∧ ∃ (g : Gx Z) (F : Hp) (env : List SD) (P : List SD → Prop), Ok X.K g F env σ H ∧ th (fun _ => P env) (fun c => Ed c env) ∧ ∀ v F' H', P env → Ex F F' → Ok X.K g F' env σ H' → Q v H') := by
    refine ⟨fun pins s σ H Q I ⟨h0, g, F, env, P, k0, w, q⟩ => ?_⟩
    refine wpAny_Call_Name_kw (thn ((pe_var (pos := p1) (i := 0) hN hv hd hcd).run pins s σ H (fun v H1 => v = .ref u ∧ H1 = H) I ⟨.ref u, h0, rfl, rfl⟩) fun y s1 ⟨v, H1, I1, r1, q1⟩ => ?_)
    obtain ⟨ev, eH⟩ := q1
    subst ev
    rw [eH] at I1
    obtain rfl : y = Value.ref u := r1
    have un : Un X.fs [] X.H_0 H X.s_0.heap s1.heap := by
      have z := I1.base
      rw [hex] at z
      exact z
    obtain ⟨oc, od, fd, osl, of1⟩ := TH.got s1 F H I1.hok (hpo k0).ex k0.fh un
    refine PySem.W.callWith_F0 ⟨_, _, _, _, of1⟩ ?_
    refine wpAny_call (codeAny_mono (TH.go X.A X.stack s1 F H Q (fun cls d H' => liftW X.K Z Ed cls d σ H') _ _ hr hA I1.env0 un (hpo k0) w (fun r v F2 H2 p po => ?_) (fun c F2 H2 er xc po => ?_)) fun res s2 hq => ?_)
    · exact q v F2 H2 p po.ex (k0.after (vs := []) (as := []) (fun i p xs z => by cases z) po).1
    · exact ⟨c, rfl, rfl, xc, g, F2, env, (k0.after (vs := []) (as := []) (fun i p xs z => by cases z) po).1, er⟩
    · match res, hq with
      | .error e, hq => exact L2N.passAt tk σ pins H s1 e s2 I1 hq
      | .ok (.ret u), hq => exact I1.after hq
      | .ok .next, hq => exact hq.elim
      | .ok .brk, hq => exact hq.elim
      | .ok .cont, hq => exact hq.elim
  exact PS.of (ps_expr he hs) fun D σ H ⟨h0, g, F, env, P, k, w, q⟩ => ⟨h0, g, F, env, fun env => P.nx env, k, w, fun v F1 H1 p e1 k1 => q.nx env σ F1 H1 p e1 k1⟩
end
section
variable {X : Cx} {m i : Nat} {u : Addr} {pos pos' np : Pos} {n : Str} {body suite : List Stmt} {b₀ : Stmt} {wb : RD → DS} {ws : DS}
theorem stryU (i : Nat) (hPE : X.mg "PrizeError" = some (.ref (He.ga X.K "PrizeError"))) (hN : X.N.Nodup)
    (hb : ∀ (F' Pr' : Hp) (Ed : RD) (pn : List (Addr × Obj)) (xe : Value → Shared → Prop), OldF Z.F0 F' → (∀ a o, F' a = some o → Z.F0 a = some o ∨ Z.H0 a = none) → L2N.Takes (X.tr pn xe) (liftW X.K (tryZ Z F' Pr') Ed) → PassesOwn (model X.prog X.w) X.A X.env xe → PSs (X.tr pn xe) body (liftSU X.K (tryZ Z F' Pr') m u (wb Ed)))
    (hsu : ∀ (a : Addr) (pn : List (Addr × Obj)), PSs (X.suite a pn) (b₀ :: suite) (liftS X.K Z m ws))
    (hs : X.stack = X.env :: X.outer := by rfl) (hf : X.env.frame = some X.env.locals := by rfl) (hex : X.ex = [] := by rfl) (hi : X.N[i]? = some n := by rfl) (hln : X.env.kindOf n = some .local := by rfl) (hgl : Gl X "PrizeError" := by rfl) :
    PS X (.Try body [.ExceptHandler (some (.Name "PrizeError" np)) (some n) (b₀ :: suite) pos'] [] [] pos) (liftSU X.K Z m u (dTry i wb ws)) := by
  refine ⟨fun pins s σ H D I ⟨h0, g, F, env, P, k, w, q⟩ => ?_⟩
  have ok := I.ok
  have hfr : X.A.frames = some (X.env :: X.outer) := ok.frames.trans (congrArg some hs)
  let Ed : RD := fun c env1 => bIf (noPar env1 i) (ws (goneEnds i P) (env1.set i (.dat (exD c)))) False
  let hd : List ExceptHandler := [.ExceptHandler (some (.Name "PrizeError" np)) (some n) (b₀ :: suite) pos']
  let xe : Value → Shared → Prop := fun e s1 => wpAny (model X.prog X.w) X.A (noteFrame e X.env) (fun _ s2 => wpAny (model X.prog X.w) X.A (setFlight e none) (fun _ s3 => wpAny (model X.prog X.w) X.A (handleBy e X.env hd) (SP X pins D) X.xe s3) X.xe s2) X.xe s1
  have tk : L2N.Takes (X.tr (X.pn ++ pins) xe) (liftW X.K (tryZ Z F g.Pr) Ed) := by
    intro u s' xx
    obtain ⟨x, B, sI, pins', σ1, H1, cls, d, rfl, J0, nb, up, sky, na, os, ag, c, rfl, rfl, xc, g2, F2, env2, k2, hE⟩ := xx
    have J : Inv X pins σ1 H1 sI := J0.ofTry ok
    obtain ⟨hnp, hE⟩ := bIf_and hE
    obtain ⟨eF, k3⟩ := k.ofTry k2
    have sky2 : Sky B (X.env :: X.outer) x (L2N.Zn (.ref (He.ga X.K c)) none) X.env.locals s'.heap := hs ▸ sky
    show wpAny (model X.prog X.w) X.A (noteFrame (.ref x) X.env) _ _ _
    refine L2N.Sky.land L2N.Zn.steady hfr hf sky2 fun h3 fl3 up3 => ?_
    have J3 : Inv X pins σ1 H1 { s' with heap := h3 } := J.landed nb fl3.1 (up.trans up3) os ag
    obtain ⟨o3, v3, g3, z3, f3⟩ := fl3.there
    have nfr : x ∉ frs (X.env :: X.outer) := fun hm => by
      obtain ⟨_, o, e1, e2⟩ := fl3.2.2.1.mem hm
      rw [g3] at e1
      cases e1
      exact e2 _ f3
    have nL : x ≠ X.env.locals := fun z => nfr (List.mem_filterMap.mpr ⟨_, List.mem_cons_self .., hf.trans (congrArg some z.symm)⟩)
    have nF : x ∉ X.fs := fun hm => by
      obtain ⟨e, h1, h2⟩ := List.mem_filterMap.mp hm
      exact nfr (List.mem_filterMap.mpr ⟨e, List.mem_cons_of_mem _ h1, h2⟩)
    have nI : sI.heap.get? x = none := by
      cases z : sI.heap.get? x with
      | none => rfl
      | some o =>
        have := nb x o z (by rw [hs]; exact nfr)
        rw [fl3.2.1] at this
        cases this
    have n0 : X.s_0.heap.get? x = none := by
      cases z : X.s_0.heap.get? x with
      | none => rfl
      | some o =>
        obtain ⟨o', e'⟩ := J.base.there x o z (by rw [hex]; simp)
        rw [nI] at e'
        cases e'
    have npn : ∀ r ∈ X.pn ++ pins, r.1 ≠ x := fun r hr z => by
      have := (J.pin r hr).1
      rw [z, nI] at this
      cases this
    have S3 := J3.suite g3 f3 na nL nF
    refine wpAny_handleBy_cons (codeAny_handlers_test ?_) (by intro q; cases q)
    have kind : PySem.W.Looks (model X.prog X.w) h3 (typeOf (.ref x)) (.ref (He.ga X.K c)) := fun _ _ _ _ kk z => wpAny_typeOf_ref (kk _ _ g3) (by rw [z3.1]; exact z)
    refine ld_glob (X := X.suite x ((x, o3) :: (X.pn ++ pins))) S3 hgl hPE ((PySem.W.exm_one J3.kIn kind xc.exm).here ?_)
    refine codeAny_handlers_suite_as (HandSPX.lands_againZ fl3 fun h4 fl4 up4 => ?_)
    have J4 : Inv X pins σ1 H1 { s' with heap := h4 } := J.landed nb fl4.1 ((up.trans up3).trans up4) os ag
    obtain ⟨o4, v4, g4, z4, f4⟩ := fl4.there
    have S4 := Inv.caught J4 hex n0 npn g4 z4 f4 na nL
    refine store_ok (X := X.suite x (X.pn ++ pins)) (v := .ref x) S4 hN hi (.inl hln) rfl (fun s5 S5 => ?_) (.inr hln)
    have ka : Ok X.K g (upd F2 x (.ext (ExcAt (He.ga X.K c) x))) env2 σ1 (upd H1 x (.ext (ExcAt (He.ga X.K c) x))) := k3.alloc na
    have kb := ka.setD (d := exD c) (v := .ref x) (noPar_of hnp) (.exc upd_same xc)
    have eF2 : Ex F (upd F2 x (.ext (ExcAt (He.ga X.K c) x))) := eF.trans (Ex.new (fnone k3.fh na))
    refine wpAny_mono ((hsu x (X.pn ++ pins)).run [] s5 _ _ (goneD i D) S5 ⟨g, _, _, _, kb, hE, .mk4 (q.ex eF2).four.gone rfl⟩) (fun fl s6 r => ?_) (fun _ _ z => z.elim)
    match fl, r with
    | .next, ⟨_, _, S6, q6⟩ => exact gone_ok (Inv.released S6 ok) hN hi hln fun s7 J7 => ⟨_, _, J7, q6⟩
    | .brk, ⟨_, _, S6, q6⟩ => exact gone_ok (Inv.released S6 ok) hN hi hln fun s7 J7 => ⟨_, _, J7, q6⟩
    | .cont, ⟨_, _, S6, q6⟩ => exact gone_ok (Inv.released S6 ok) hN hi hln fun s7 J7 => ⟨_, _, J7, q6⟩
    | .ret u, ⟨_, _, _, S6, r6, q6⟩ => exact gone_ok (Inv.released S6 ok) hN hi hln fun s7 J7 => ⟨_, _, _, J7, r6, q6⟩
  refine wpAny_Try_except (wpAny_mono ((hb F g.Pr Ed (X.pn ++ pins) xe k.oldF k.newF tk PassesOwn.looking).run [] s σ H D (I.toTry _) ⟨h0, tryG g F, F, env, _, k.inTry, w, .mk4 (Ends4.inTry k q.four) rfl⟩) (fun fl s1 r => ?_) fun e s1 z => z)
  match fl, r with
  | .next, ⟨_, _, J, q1⟩ => exact wpAny_execs_nil ⟨_, _, J.ofTry ok, q1⟩
  | .brk, ⟨_, _, J, q1⟩ => exact ⟨_, _, J.ofTry ok, q1⟩
  | .cont, ⟨_, _, J, q1⟩ => exact ⟨_, _, J.ofTry ok, q1⟩
  | .ret u, ⟨_, _, _, J, r1, q1⟩ => exact ⟨_, _, _, J.ofTry ok, r1, q1⟩
/-- the states within such a try, seen from the def's begin -/
theorem post_try {K : PySem.W.Frag} {P : Program} {w : World} {F0 H0 F' Pr' : Hp} (hF : OldF F0 F') (hn : ∀ a o, F' a = some o → F0 a = some o ∨ H0 a = none) {g : Gx (tryZ (entryZ T P w F0 H0 [.ref u] [.un]) F' Pr')} {F1 : Hp} {env : List SD} {σ : L2.St} {H1 : Hp} (k : Ok K g F1 env σ H1) :
    PostOk T K F0 H0 [] [] F1 H1 [] .non (.dat .none) where
  ex := hF.1.trans k.oldF.1
  nt := k.oldF.2
  fh := k.fh
  newF := fun a o e => by
    rcases k.newF a o e with z | z
    · exact hn a o z
    · exact .inr z
  frame := k.frame.weak fun a o e _ i z => by
    obtain ⟨p, xs, h1, h2⟩ := cellsAt_inv z
    exact no_cel_un i p xs h1
  cel := fun i p xs a e => by cases e
  res := .non
end
end DL

namespace DL
variable {T : List (PySem.Addr × PySem.Str)} {Z : Zx T}
open PySem PySem.Spec PyProof.Rows L2
open Evl (Ex)
section
variable {X : Cx} {pins : List (Addr × Obj)} {σ : L2.St} {H : Hp} {s : Shared} {a C dx : Addr} {fs : List (Str × V)} {f : Str} {v : V} {A : Around} {E : Value → Shared → Prop}
end
section
variable {K : PySem.W.Frag} {g : Gx Z} {F : Hp} {env : List SD} {σ : L2.St} {H : Hp} {i : Nat} {p : Option Nat} {c : Str} {ds : List (Str × PyData)} {ls : List (Str × List PyData)}
end
section
variable {X : Cx} {i : Nat} {c f x : Str} {p0 pos : Pos}
end
section
variable {K : PySem.W.Frag} {g : Gx Z} {F : Hp} {env : List SD} {σ : L2.St} {H : Hp} {i : Nat} {p : Option Nat} {c f : Str} {ds : List (Str × PyData)} {ls : List (Str × List PyData)}
end
section
variable {X : Cx} {m : Nat} {c f x : Str} {p0 pos pos' : Pos} {e : Expr} {we : DE}
end
end DL

namespace DL
variable {T : List (PySem.Addr × PySem.Str)} {Z : Zx T}
open PySem PySem.Spec PyProof.Rows L2
open Evl (Ex)
section
variable {K : PySem.W.Frag} {g : Gx Z} {F : Hp} {env : List SD} {σ : L2.St} {H : Hp} {i : Nat} {p : Option Nat} {c f : Str} {ds : List (Str × PyData)} {ls : List (Str × List PyData)}
end
section
variable {X : Cx} {i : Nat} {c f x : Str} {p0 pos : Pos}
end
section
variable {X : Cx} {i : Nat} {c f x : Str} {p0 ap pos : Pos}
end
section
variable {X : Cx} {m : Nat} {c f h x : Str} {p0 p1 ap0 ap1 apos cpos pos pos' : Pos}
end
theorem DRs.dropLast {K : PySem.W.Frag} {F : Hp} {vs : List V} {ds : List PyData} (r : DRs K F vs ds) : DRs K F vs.dropLast ds.dropLast := by
  rw [List.dropLast_eq_take, List.dropLast_eq_take, r.length]
  exact r.take _
section
variable {X : Cx} {m : Nat} {c f h x : Str} {p0 p1 ap0 ap1 apos cpos pos pos' : Pos}
end
end DL

namespace DL
variable {T : List (PySem.Addr × PySem.Str)} {Z : Zx T}
open PySem PySem.Spec PyProof.Rows L2
open Evl (Ex)
abbrev DSpK := List SD → (PyData → List SD → Prop) → (Str → List SD → Prop) → Prop
/-- B i: where the instance of place i stands -/
structure ArgsK (T : List (Addr × Str)) (K : PySem.W.Frag) (F H : Hp) (vs : List V) (as : List SD) (B : Nat → List Addr) : Prop where
  len : as.length = vs.length
  fh : Ex F H
  dat : ∀ (i : Nat) (d : PyData), as[i]? = some (.dat d) → ∃ v, vs[i]? = some v ∧ DR K F v d
  cel : ∀ (i : Nat) (p : Bool) (xs : List PyData), as[i]? = some (.cel p xs) → p = true ∧ ∃ a us, vs[i]? = some (.ref a) ∧ F a = none ∧ H a = some (.lst us) ∧ DRs K F us xs
  sep : ∀ (i j : Nat) (p q : Bool) (xs ys : List PyData) (a : Addr), as[i]? = some (.cel p xs) → as[j]? = some (.cel q ys) → vs[i]? = some (.ref a) → vs[j]? = some (.ref a) → i = j
  ins : ∀ (i : Nat) (w : Own), as[i]? = some (.dic w) → ∃ c ds ls a bs, w = .ins (some i) c ds ls ∧ vs[i]? = some (.ref a) ∧ B i = a :: bs ∧ InsR K F H a bs c ds ls ∧ ∀ x ∈ a :: bs, F x = none ∧ ∃ φ, H x = some (.ext φ)
  apart : ∀ (i j : Nat), i ≠ j → ∀ x ∈ B i, x ∉ B j
  nil : ∀ i : Nat, (∀ w, as[i]? ≠ some (.dic w)) → B i = []
  tab : LamX.Tabs T H
  nt : ∀ a ps, F a ≠ some (.tbl ps)
structure PostK (T : List (Addr × Str)) (K : PySem.W.Frag) (F H : Hp) (vs : List V) (as : List SD) (B : Nat → List Addr) (F' H' : Hp) (as' : List SD) (v : V) (d : PyData) : Prop where
  ex : Ex F F'
  nt : ∀ a ps, F' a ≠ some (.tbl ps)
  fh : Ex F' H'
  newF : ∀ (a : Addr) (o : HO), F' a = some o → F a = some o ∨ H a = none ∨ ∃ i, a ∈ B i
  frame : Frm T H (fun a => (∀ (i : Nat) (p : Bool) (xs : List PyData), as[i]? = some (.cel p xs) → vs[i]? ≠ some (.ref a)) ∧ ∀ i, a ∉ B i) H'
  cel : ∀ (i : Nat) (p : Bool) (xs : List PyData) (a : Addr), as[i]? = some (.cel p xs) → vs[i]? = some (.ref a) → ∃ ys us, as'[i]? = some (.cel true ys) ∧ F' a = none ∧ H' a = some (.lst us) ∧ DRs K F' us ys
  ins : ∃ B' : Nat → List Addr, (∀ (i : Nat) (w : Own) (a : Addr), as[i]? = some (.dic w) → vs[i]? = some (.ref a) → ∃ c ds ls bs, as'[i]? = some (.dic (.ins (some i) c ds ls)) ∧ B' i = a :: bs ∧ InsR K F' H' a bs c ds ls ∧
      ∀ x ∈ a :: bs, F' x = none ∧ (H x = none ∨ ∃ j, x ∈ B j) ∧ ∃ φ, H' x = some (.ext φ)) ∧
    ∀ (i j : Nat) (w w' : Own), as[i]? = some (.dic w) → as[j]? = some (.dic w') → i ≠ j → ∀ x ∈ B' i, x ∉ B' j
  res : DR K F' v d
section
variable {K : PySem.W.Frag} {F H : Hp} {vs : List V} {as : List SD} {B : Nat → List Addr}
end
end DL

namespace DL
variable {T : List (PySem.Addr × PySem.Str)} {Z : Zx T}
open PySem PySem.Spec PyProof.Rows L2
open Evl (Ex)
/-- js: the place's slot (a cell or an instance), or none (a datum) -/
inductive MixV (K : PySem.W.Frag) (F : Hp) (σ : L2.St) : List (Option Nat) → List V → List PyData → Prop
  | nil : MixV K F σ [] [] []
  | slot {j : Nat} {v : V} {js : List (Option Nat)} {vs : List V} {ds : List PyData} : σ[j]? = some (some v) → MixV K F σ js vs ds → MixV K F σ (some j :: js) (v :: vs) ds
  | dat {v : V} {d : PyData} {js : List (Option Nat)} {vs : List V} {ds : List PyData} : DR K F v d → MixV K F σ js vs ds → MixV K F σ (none :: js) (v :: vs) (d :: ds)
section
variable {X : Cx} {e : Expr} {es : List Expr} {we : DE} {was : DA} {js : List (Option Nat)} {x : Str} {p0 : Pos}
end
section
variable {K : PySem.W.Frag} {F : Hp} {σ : L2.St} {env : List SD} {vs : List V} {ds : List PyData}
end
section
variable {K : PySem.W.Frag} {g : Gx Z} {F : Hp} {env : List SD} {σ : L2.St} {H : Hp} {js : List (Option Nat)} {vs : List V} {ds : List PyData}
end
end DL

namespace DL
variable {T : List (PySem.Addr × PySem.Str)} {Z : Zx T}
open PySem PySem.Spec PyProof.Rows L2
open Evl (Ex)
structure FnK (P : Program) (w : World) (K : PySem.W.Frag) (mg : Str → Option Value) (base : Heap) (T : List (Addr × Str)) (k : Nat) (f : Addr) (fd : FuncData) (ps : List Str) (S : DSpK) : Prop where
  len : ∀ as Q E, S as Q E → as.length = ps.length
  go : ∀ (A : Around) (outer : List Env) (s : Shared) (H : Hp) (args : Args) (us : List Value) (vs : List V) (Q : VK) (E : XWish) (F : Hp) (as : List SD) (B : Nat → List Addr) (PP : PyData → List SD → Prop) (EE : Str → List SD → Prop), Room k A → A.guards = some [] → Env0 P w K mg base A outer s H →
    BindsTo s fd args (ps.zip us) → Vals vs us → ArgsK T K F H vs as B → S as PP EE → (∀ d as' v F' H', PP d as' → PostK T K F H vs as B F' H' as' v d → Q v H') →
    (∀ c as' F' H', EE c as' → XcF K c → PostK T K F H vs as B F' H' as' .non .none → E (.ref (He.ga K c)) none H') → codeAny (model P w) A (.call (.ref f) args) (CR (L2N.CX P w) outer P w H s Q E) s
structure DnK (P : Program) (w : World) (K : PySem.W.Frag) (mg : Str → Option Value) (base : Heap) (T : List (Addr × Str)) (x : Str) (k : Nat) (ps : List Str) (S : DSpK) : Prop where
  ex : ∃ fd, FnK P w K mg base T k (He.ga K x) fd ps S ∧ Binds K fd ps []
  glo : mg x = some (.ref (He.ga K x))
  kp : PySem.W.keepIn K (.ref (He.ga K x)) = true
/-- the method m of the class c -/
structure MnK (P : Program) (w : World) (K : PySem.W.Frag) (mg : Str → Option Value) (base : Heap) (T : List (Addr × Str)) (c m : Str) (k : Nat) (ps : List Str) (S : DSpK) : Prop where
  ex : ∃ f fd, FnK P w K mg base T k f fd ps S ∧ Binds K fd ps [] ∧ Meth K (He.ga K c) m f
  cls : Cls K (He.ga K c)
/-- the class c is made by its __init__ -/
structure CnK (P : Program) (w : World) (K : PySem.W.Frag) (mg : Str → Option Value) (base : Heap) (T : List (Addr × Str)) (c : Str) (k : Nat) (ps : List Str) (S : DSpK) : Prop where
  ex : ∃ f fd, FnK P w K mg base T k f fd ps S ∧ Binds K fd ps [] ∧ Mk K (He.ga K c) f
  glo : mg c = some (.ref (He.ga K c))
section
variable {P : Program} {w : World} {K : PySem.W.Frag} {mg : Str → Option Value} {base : Heap}
end
section
variable {X : Cx} {k : Nat} {f : Addr} {fd : FuncData} {ps : List Str} {S : DSpK} {x c mth : Str} {p p0 apos pos : Pos} {e : Expr} {es : List Expr} {was : DA} {Ed : RD} {js : List (Option Nat)}
end
section
variable {X : Cx} {m k : Nat} {ps : List Str} {S : DSpK} {x c : Str} {p pos pos' pos2 : Pos}
end
end DL

namespace DL
variable {T : List (PySem.Addr × PySem.Str)} {Z : Zx T}
open PySem PySem.Spec PyProof.Rows L2
open Evl (Ex)
section
variable {K : PySem.W.Frag} {g : Gx Z} {F : Hp} {env : List SD} {σ : L2.St} {H : Hp} {i : Nat} {p : Option Nat} {c f : Str} {ds : List (Str × PyData)} {ls : List (Str × List PyData)}
end
section
variable {X : Cx} {m : Nat} {c f x : Str} {p0 pl pos pos' : Pos}
end
section
variable {X : Cx} {k : Nat} {ps : List Str} {S : DSpK} {x : Str} {p pos : Pos} {Ed : RD}
end
section
variable {P : Program} {w : World} {K : PySem.W.Frag} {mg : Str → Option Value} {base : Heap}
end
section
variable {fa : List He.Fa} {fn : List He.FnD} {K : PySem.W.Frag} {mg : Str → Option Value}
theorem Top.cls (T : Top fa fn K mg) (c : Str) (i : Nat) (h : fa[i]? = some (.cls c) := by rfl) : Cls K (He.ga K c) := He.cls_ok (T.says.fact i h)
end
section
variable {X : Cx} {a b : Expr} {wa wb : DE} {pos : Pos}
end
end DL

namespace DL
variable {T : List (PySem.Addr × PySem.Str)} {Z : Zx T}
open PySem PySem.Spec PyProof.Rows L2
open Evl (Ex)
end DL

namespace DL
variable {T : List (PySem.Addr × PySem.Str)} {Z : Zx T}
open PySem PySem.Spec PyProof.Rows L2
open Evl (Ex)
end DL

namespace DL
variable {T : List (PySem.Addr × PySem.Str)} {Z : Zx T}
open PySem PySem.Spec PyProof.Rows L2
open Evl (Ex)
section
variable {X : Cx} {m : Nat} {C : Str} {pos pos' np : Pos} {body suite : List Stmt} {b₀ : Stmt} {wb : RD → DS} {ws : DS}
end
end DL

namespace DL
variable {T : List (PySem.Addr × PySem.Str)} {Z : Zx T}
open PySem PySem.Spec PyProof.Rows L2 PySem.W
open Evl (Ex)
/-- a function's object; a cell with its content -/
abbrev FunE (f : Addr) (o : Obj) : HO := .ext fun h => h.get? f = some o
abbrev CelE (c : Addr) (w : Option Value) : HO := .ext fun h => h.IsCell c w
section
variable {X : Cx} {pins : List (Addr × Obj)} {σ : L2.St} {H : Hp} {s : Shared}
/-- a new object is looked at from now on -/
theorem Inv.track {f : Addr} {φ : Heap → Prop} {o : Obj} (I : Inv X pins σ H s) (ho : s.heap.get? f = some o) (hn : H f = none) (h0 : X.s_0.heap.objs.size ≤ f) (hL : f ≠ X.env.locals) (hc : ∀ x c, X.env.cells.lookup x = some c → c ≠ f) (hp : ∀ p ∈ X.pn ++ pins, p.1 ≠ f)
    (hφ : φ s.heap) (st : ∀ h1 h2 : Heap, φ h1 → (∀ o, h1.get? f = some o → h2.get? f = some o) → φ h2) : Inv X pins σ (upd H f (.ext φ)) s := by
  have ne : ∀ {b u}, H b = some u → b ≠ f := fun e => ne_of_none e hn
  exact I.step (g' := s.gens) (t' := s.toks) (d' := s.drawn) (ch := [f]) (fun b hb => by
      rw [List.mem_singleton.mp hb]
      exact ⟨.inr h0, hL, hc, hp⟩) (fun b o _ _ _ e _ => e) (fun b o _ _ _ e _ => ⟨o.slots, e⟩) (fun b o hb _ n => by rw [upd_ne fun z => hb (by rw [z]; exact List.mem_singleton_self _)]; exact n) (fun b o _ e => ⟨o, e⟩)
    (fun b xs e => by rw [upd_ne (ne e)]; exact e) (fun b o u e => by rw [upd_ne (ne e)]; exact e) (fun b ps e => ⟨#[], by rw [upd_ne (ne e), e]; simp⟩) (fun m hm => hm) (fun b u e => by
      by_cases hb : b = f
      · subst hb
        rw [upd_same] at e
        cases e
        exact ⟨hφ, ⟨o, ho⟩, st⟩
      · rw [upd_ne hb] at e
        exact (I.hok b u e).stay (fun c v _ q => q) (fun c q => by rw [upd_ne (ne q)]; exact q) fun c xs q => by rw [upd_ne (ne q)]; exact q) I.bare
/-- a lambda with captured names -/
def tLamM (T : List (Addr × Str)) (q : Str) (cl : List (Str × Addr)) (params : Arguments) (body : Expr) (scope : Scope) : TE := fun σ H Q => LamX.Tabs T H ∧
  ∀ f c' pm ctv H1, Grown T H H1 → H1 f = none → H1 c' = some (LamX.CodeO c' q) → Q (.ref f) (upd H1 f (FunE f (kla_obj "<lambda>" q params body scope cl pm c' ctv)))
theorem pe_lamM {params : Arguments} {body : Expr} {scope : Scope} {pos : Pos} (LC : LamC X.base X.mg T X.env.code X.env.qual) (L : LamX.LamS X.env.scope scope) (hdef : defaultsOf params X.env = ([], []) := by rfl) :
    PE X (.Lambda params body scope pos) (tLamM T (X.env.qual ++ "<lambda>") (cloFrom X.env.cells scope.names []) params body scope) := ⟨fun pins s σ H Q I ⟨hT, q⟩ => by
  obtain ⟨c, PT, hcode, TB, hmem, hu⟩ := LC
  refine lam_make4 I TB hcode hmem hu hT hdef (closure_ok (L.has I.ok)) fun f c' pm ctv H1 s' I1 gr hf hfn hfr hco hsz => ?_
  have sn : s.heap.get? f = none := Heap.get?_none_of_le hsz
  refine ⟨.ref f, _, Inv.track I1 hf hfn (Nat.le_trans I.sz hsz) (Nat.ne_of_gt (Nat.lt_of_lt_of_le I.lt hsz)) (fun x c e z => ?_) (fun p hp z => ?_) hf (fun h1 h2 a b => b _ a), rfl, q f c' pm ctv H1 gr hfn hco⟩
  · obtain ⟨v, o, ho, _⟩ := I.cell x c e
    rw [z, sn] at ho
    cases ho
  · have := (I.pin p hp).1
    rw [z, sn] at this
    cases this⟩
/-- whole numbers as written -/
def tInts (l : List Int) : TA := fun _ H Q => Q (l.map .int) H
theorem pa_ints0 : PA X [] (tInts []) := PA.of pa_nil fun _ _ _ h => h
theorem pa_ints {l : List Int} {es : List Expr} {i : Int} {j pos} (h : PA X es (tInts l)) (hs : starEach (.Constant (.int i) j pos :: es) X.env = (false, eval (.Constant (.int i) j pos) X.env) :: starEach es X.env := by rfl) : PA X (.Constant (.int i) j pos :: es) (tInts (i :: l)) :=
  PA.of (pa_cons pe_int h hs) fun σ H Q h => h
end
structure LamC0 where
  params : Arguments
  body : Expr
  scope : Scope
/-- a lambda's place -/
abbrev plD (f : Nat) : PyData := .dict [(.none, .int (f : Nat))]
abbrev itemM (l : LamC0 × List Int) (f : Nat) : PyData := .tuple [plD f, .tuple (l.2.map .int)]
def itmsM : List (LamC0 × List Int) → List Nat → List PyData
  | l :: ls, f :: fs => itemM l f :: itmsM ls fs
  | _, _ => []
def MkRec (q : Str) (cells : List (Str × Addr)) (F H : Hp) (l : LamC0 × List Int) (f : Nat) : Prop :=
  ∃ (pm : Value) (c' : Addr) (ctv : Value), F f = some (FunE f (kla_obj "<lambda>" q l.1.params l.1.body l.1.scope (cloFrom cells l.1.scope.names []) pm c' ctv)) ∧ H c' = some (LamX.CodeO c' q)
theorem MkRec.mono {q : Str} {cells : List (Str × Addr)} {F F' H H' : Hp} {l : LamC0 × List Int} {f : Nat} (r : MkRec q cells F H l f) (e : Ex F F') (h : ∀ c q, H c = some (LamX.CodeO c q) → H' c = some (LamX.CodeO c q)) : MkRec q cells F' H' l f := by
  obtain ⟨pm, c', ctv, h1, h2⟩ := r
  exact ⟨pm, c', ctv, e _ _ h1, h _ _ h2⟩
theorem lam_isi {K : PySem.W.Frag} {F : Hp} {f : Addr} {o : Obj} (h : F f = some (FunE f o)) (hc : o.cls = .type "function") : ∀ F', Ex F F' → IsiNo K F' f := by
  intro F' e X pins s σ T Q eK hT I q
  subst eK
  have ho : s.heap.get? f = some o := (I.hok f _ (e _ _ h)).1
  exact PySem.W.kia_one kitx_fun I.kIn ⟨_, ho, hc⟩ (kit_fun T hT) (fun z => nomatch z) fun tk => ⟨.bl false, F', I.tok tk, rfl, q⟩
section
variable {X : Cx} {q : Str} {cells : List (Str × Addr)} {pos : Pos} {e2 : Expr} {es : List Expr}
/-- (lambda: .., (..)): a pair -/
def liftIt (K : PySem.W.Frag) (Z : Zx T) (q : Str) (cells : List (Str × Addr)) (l : LamC0 × List Int) : TE := fun σ H Q => ∃ (g : Gx Z) (F : Hp) (env : List SD), Ok K g F env σ H ∧
  ∀ (t : V) (f : Nat) F' H', Ex F F' → (∀ b o, H b = some o → Sty o (H' b)) → Ok K g F' env σ H' → DR K F' t (itemM l f) → MkRec q cells F' H' l f → Q t H'
theorem pe_item {params : Arguments} {body : Expr} {scope : Scope} {lpos tpos : Pos} {x1 x2} {pl : List Int} (LC : LamC X.base X.mg T X.env.code X.env.qual) (L : LamX.LamS X.env.scope scope) (hi : PA X es (tInts pl)) (hl : pl.length ≤ 1000) (hdef : defaultsOf params X.env = ([], []) := by rfl)
    (hs : starEach [.Lambda params body scope lpos, .Tuple es x2 tpos] X.env = [(false, eval (.Lambda params body scope lpos) X.env), (false, eval (.Tuple es x2 tpos) X.env)] := by rfl) (hs2 : starEach [.Tuple es x2 tpos] X.env = [(false, eval (.Tuple es x2 tpos) X.env)] := by rfl) :
    PE X (.Tuple [.Lambda params body scope lpos, .Tuple es x2 tpos] x1 pos) (liftIt X.K Z (X.env.qual ++ "<lambda>") X.env.cells (⟨params, body, scope⟩, pl)) :=
  PE.of (pe_tupZ (pa_cons (pe_lamM LC L hdef) (pa_cons (pe_tupZ hi) pa_nil hs2) hs)) fun σ H Q ⟨g, F, env, k, h⟩ => by
    refine ⟨k.frame.tab, fun f c' pm ctv H1 gr hfn hco => ?_⟩
    have k1 := k.grown gr
    have ka := k1.alloc (o := FunE f (kla_obj "<lambda>" (X.env.qual ++ "<lambda>") params body scope (cloFrom X.env.cells scope.names []) pm c' ctv)) hfn
    have ea := Ex.new (o := FunE f (kla_obj "<lambda>" (X.env.qual ++ "<lambda>") params body scope (cloFrom X.env.cells scope.names []) pm c' ctv)) (fnone k1.fh hfn)
    refine ⟨by rw [List.length_map, sizeLine_eq]; omega, fun P o1 hP ho1 => ⟨by simp [sizeLine_eq], fun t o2 ht ho2 => ?_⟩⟩
    obtain ⟨eb, kb, rb⟩ := ka.newTup hP ho1 (drs_ints pl)
    obtain ⟨ec, kc, rc⟩ := kb.newTup ht ho2 (.cons (.opq (lam_isi (eb f _ upd_same) rfl) (.inl rfl)) (.one rb))
    refine h (.ref t) f _ _ (ea.trans (eb.trans ec)) (fun b o e => ?_) kc rc ⟨pm, c', ctv, ec _ _ (eb _ _ upd_same), ?_⟩
    · obtain ⟨u, hu⟩ := (gr.sty b o e).there
      have n1 := ne_of_none hu hfn
      have n2 : b ≠ P := ne_of_none (show upd H1 f _ b = some u by rw [upd_ne n1]; exact hu) hP
      have n3 : b ≠ t := ne_of_none (show upd (upd H1 f _) P _ b = some u by rw [upd_ne n2, upd_ne n1]; exact hu) ht
      rw [upd_ne n3, upd_ne n2, upd_ne n1]
      exact gr.sty b o e
    · have n1 := ne_of_none hco hfn
      have n2 : c' ≠ P := ne_of_none (show upd H1 f _ c' = some _ by rw [upd_ne n1]; exact hco) hP
      have n3 : c' ≠ t := ne_of_none (show upd (upd H1 f _) P _ c' = some _ by rw [upd_ne n2, upd_ne n1]; exact hco) ht
      rw [upd_ne n3, upd_ne n2, upd_ne n1]
      exact hco
end
end DL

namespace DL
variable {T : List (PySem.Addr × PySem.Str)} {Z : Zx T}
open PySem PySem.Spec PyProof.Rows L2 PySem.W
open Evl (Ex)
section
variable {X : Cx} {st : Stmt} {rest : List Stmt}
/-- a body that returns, with the names' content at its end -/
def FinM (X : Cx) (Pm : V → L2.St → Hp → Prop) (f : Flow) (s' : Shared) : Prop := match f with
  | .ret u => ∃ v σ' H', Inv X [] σ' H' s' ∧ RelV v u ∧ Pm v σ' H'
  | _ => False
abbrev TM := (V → L2.St → Hp → Prop) → L2.St → Hp → Prop
structure PSm (X : Cx) (sts : List Stmt) (t : TM) : Prop where
  run : ∀ (s : Shared) (σ : L2.St) (H : Hp) (Pm : V → L2.St → Hp → Prop), Inv X [] σ H s → t Pm σ H → wpAny (model X.prog X.w) X.A (execs sts X.env) (FinM X Pm) X.xe s
theorem PSm.of {sts : List Stmt} {t t' : TM} (h : PSm X sts t) (w : ∀ Pm σ H, t' Pm σ H → t Pm σ H) : PSm X sts t' := ⟨fun s σ H Pm I q => h.run s σ H Pm I (w Pm σ H q)⟩
theorem psm_cons {t1 : TS} {t2 : TM} (h1 : PS X st t1) (h2 : PSm X rest t2) : PSm X (st :: rest) (fun Pm σ H => t1 { nx := t2 Pm, rt := fun _ _ => False, bk := fun _ _ => False, ct := fun _ _ => False } σ H) := by
  refine ⟨fun s σ H Pm I h => ?_⟩
  refine wpAny_execs_cons (thn (h1.run [] s σ H _ I h) fun f s1 q => ?_)
  cases f with
  | next =>
    obtain ⟨σ', H', I', q⟩ := q
    exact h2.run s1 σ' H' Pm I' q
  | ret v =>
    obtain ⟨_, _, _, _, _, q⟩ := q
    exact q.elim
  | brk =>
    obtain ⟨_, _, _, q⟩ := q
    exact q.elim
  | cont =>
    obtain ⟨_, _, _, q⟩ := q
    exact q.elim
theorem psm_ret {e : Expr} {te : TE} {pos : Pos} (he : PE X e te) : PSm X [.Return (some e) pos] (fun Pm σ H => te σ H fun v H' => Pm v σ H') := by
  refine ⟨fun s σ H Pm I h => ?_⟩
  refine wpAny_execs_cons (wpAny_Return_some (thn (he.run [] s σ H _ I h) fun v s1 ⟨x, H1, I1, r1, q1⟩ => ?_))
  exact ⟨x, σ, H1, I1, r1, q1⟩
theorem PSm.nox {st : List Stmt} {t : TM} (h : PSm X.nox st t) : PSm X st t := ⟨fun s σ H Pm I hw =>
  wpAny_mono (h.run s σ H Pm (I.wish _) hw) (fun f s' q => by
    cases f with
    | ret u =>
      obtain ⟨v, σ', H', J, r, q⟩ := q
      exact ⟨v, σ', H', J.unwish, r, q⟩
    | next => exact q
    | brk => exact q
    | cont => exact q) fun _ _ z => z.elim⟩
end
section
variable {X : Cx} {q : Str} {cells : List (Str × Addr)} {pos : Pos} {item : Expr} {rest : List Stmt} {i : Nat} {LS ls : List (LamC0 × List Int)} {l : LamC0 × List Int}
/-- how it ends -/
def EndM (K : PySem.W.Frag) (g : Gx Z) (F : Hp) (q : Str) (cells : List (Str × Addr)) (LS : List (LamC0 × List Int)) (PP : List SD → Prop) (Pm : V → L2.St → Hp → Prop) : Prop := ∀ (env' : List SD) (fs : List Nat) (v : V) (F' : Hp) (σ' : L2.St) (H' : Hp),
  PP env' → Ex F F' → Ok K g F' env' σ' H' → ResOk K g F' env' σ' H' v (.cel false (itmsM LS fs)) → Paired (MkRec q cells F' H') LS fs → Pm v σ' H'
theorem EndM.ex {K : PySem.W.Frag} {g : Gx Z} {F F1 : Hp} {PP : List SD → Prop} {Pm : V → L2.St → Hp → Prop} (h : EndM K g F q cells LS PP Pm) (e : Ex F F1) : EndM K g F1 q cells LS PP Pm := fun env' fs v F' σ' H' p e' k r m => h env' fs v F' σ' H' p (e.trans e') k r m
def liftM (K : PySem.W.Frag) (Z : Zx T) (i : Nat) (q : Str) (cells : List (Str × Addr)) (LS ls : List (LamC0 × List Int)) : TM := fun Pm σ H => ∃ (g : Gx Z) (F : Hp) (env : List SD) (PP : List SD → Prop) (fs : List Nat), Ok K g F env σ H ∧ env[i]? = some (.cel false (itmsM ls fs)) ∧
  Paired (MkRec q cells F H) ls fs ∧ PP (env.set i .un) ∧ EndM K g F q cells LS PP Pm
def liftM1 (K : PySem.W.Frag) (Z : Zx T) (i : Nat) (q : Str) (cells : List (Str × Addr)) (LS : List (LamC0 × List Int)) : TM := fun Pm σ H => ∃ (g : Gx Z) (F : Hp) (env : List SD) (PP : List SD → Prop), Ok K g F env σ H ∧ (noPar env i = true ∧ i < env.length) ∧ PP (env.set i .un) ∧ EndM K g F q cells LS PP Pm
def liftM0 (K : PySem.W.Frag) (Z : Zx T) (i : Nat) (q : Str) (cells : List (Str × Addr)) (LS : List (LamC0 × List Int)) (w : DS) : TM := fun Pm σ H => ∃ (g : Gx Z) (F : Hp) (env : List SD) (PP : List SD → Prop), Ok K g F env σ H ∧
  w { nx := fun env => bIf (noPar env i && Nat.blt i env.length) (PP (env.set i .un)) False, rt := fun _ _ => False } env ∧ EndM K g F q cells LS PP Pm
theorem itms_app : ∀ {ls : List (LamC0 × List Int)} {fs : List Nat} {l : LamC0 × List Int} {f : Nat}, ls.length = fs.length → itmsM (ls ++ [l]) (fs ++ [f]) = itmsM ls fs ++ [itemM l f]
  | [], [], _, _, _ => rfl
  | [], _ :: _, _, _, h => by cases h
  | _ :: _, [], _, _, h => by cases h
  | _ :: ls, _ :: fs, l, f, h => by
    show _ :: itmsM (ls ++ [l]) (fs ++ [f]) = _
    rw [itms_app (by simpa using h)]
    rfl
theorem itms_len : ∀ {ls : List (LamC0 × List Int)} {fs : List Nat}, ls.length = fs.length → (itmsM ls fs).length = ls.length
  | [], [], _ => rfl
  | [], _ :: _, h => by cases h
  | _ :: _, [], h => by cases h
  | _ :: ls, _ :: fs, h => by
    show (_ :: itmsM ls fs).length = _
    rw [List.length_cons, itms_len (by simpa using h)]
    rfl
theorem paired_len {α β : Type} {R : α → β → Prop} : ∀ {l : List α} {m : List β}, Paired R l m → l.length = m.length
  | _, _, .nil => rfl
  | _, _, .cons _ t => by simp [paired_len t]
theorem paired_app {α β : Type} {R : α → β → Prop} {a : α} {b : β} (h : R a b) : ∀ {l : List α} {m : List β}, Paired R l m → Paired R (l ++ [a]) (m ++ [b])
  | _, _, .nil => .cons h .nil
  | _, _, .cons x t => .cons x (paired_app h t)
/-- return x, the list -/
theorem m_ret {x : Str} {p0 : Pos} (hN : X.N[i]? = some x := by rfl) (hv : Vis X.env.scope x := by first | exact Or.inl rfl | exact Or.inr (Or.inl rfl) | exact Or.inr (Or.inr rfl)) (hd : (x == ("__debug__" : Str)) = false := by decide)
    (hcd : (x == ("__classdict__" : Str)) = false := by decide) : PSm X [.Return (some (.Name x p0)) pos] (liftM X.K Z i q cells LS LS) := PSm.of (psm_ret (pe_var hN hv hd hcd)) fun Pm σ H ⟨g, F, env, PP, fs, k, he, mk, p, q⟩ => by
  obtain ⟨a, h1, k2, r2⟩ := k.drop he
  exact ⟨_, h1, q _ fs _ F σ H p (Ex.refl F) k2 r2 mk⟩
/-- x.append((lambda: .., (..))) -/
theorem m_app {x : Str} {p0 apos cpos : Pos} (hit : PE X item (liftIt X.K Z q cells l)) (hl : ls.length ≤ 1000) (hr : PSm X rest (liftM X.K Z i q cells LS (ls ++ [l]))) (hN : X.N[i]? = some x := by rfl) (hv : Vis X.env.scope x := by first | exact Or.inl rfl | exact Or.inr (Or.inl rfl) | exact Or.inr (Or.inr rfl)) (hd : (x == ("__debug__" : Str)) = false := by decide)
    (hcd : (x == ("__classdict__" : Str)) = false := by decide)
    (h1 : attributeBase (.Name x p0) "append" X.env (eval (.Name x p0) X.env) = eval (.Name x p0) X.env := by rfl)
    (h2 : ((backTo cpos (starEach [item] X.env)).all (!·.1) && (backToKw cpos (keywordEach [] X.env)).all (·.1.isSome) && decide ([item].length + ([] : List Keyword).length + (if ([] : List Keyword).isEmpty then 0 else 1) < 30)) = true := by rfl)
    (h3 : (apos.endLine == cpos.line) = true := by rfl)
    (h4 : starEach [item] X.env = (false, eval item X.env) :: starEach [] X.env := by rfl) (h5 : (backTo cpos (starEach [] X.env)).any (·.1) = false := by rfl)
    (hs : swapsWith (.Call (.Attribute (.Name x p0) "append" apos) [item] [] cpos) none pos.line X.env = pure false := by rfl) :
    PSm X (.Expr (.Call (.Attribute (.Name x p0) "append" apos) [item] [] cpos) pos :: rest) (liftM X.K Z i q cells LS ls) :=
  PSm.of (psm_cons (ps_expr (pe_bm PySem.F.plainAttrs_list PySem.F.slot_list_append PySem.F.type_list_append mt_append (pe_var hN hv hd hcd) (pa_cons hit pa_nil h4) h1 h2 h3 h4 h5) hs) hr) fun Pm σ H ⟨g, F, env, PP, fs, k, he, mk, p, q⟩ => by
    obtain ⟨a0, us0, b1, _, b3, _⟩ := k.cel i false _ he
    refine ⟨_, b1, .inl ⟨rfl, us0, SqL.of b3⟩, g, F, env, k, fun t f F1 H1 e1 sty k1 r1 mk1 => ?_⟩
    obtain ⟨a1, us1, c1, c2, c3, c4, _⟩ := k1.cel i false _ he
    rw [b1] at c1
    cases c1
    have lf := paired_len mk
    refine ⟨a0, us1, t, rfl, rfl, c3, by rw [c4.length, itms_len lf]; exact Evl.sz_lt (by omega), g, F1, env.set i (.cel false (itmsM (ls ++ [l]) (fs ++ [f]))), PP, fs ++ [f], ?_, set_eq he, ?_, by rw [List.set_set]; exact p, q.ex e1⟩
    · rw [itms_app lf]
      exact k1.write he b1 (c4.append (.one r1))
    · have up : ∀ c q, H1 c = some (LamX.CodeO c q) → upd H1 a0 (.lst (us1 ++ [t])) c = some (LamX.CodeO c q) := fun c q z => by
        have ne : c ≠ a0 := fun y => by
          rw [y, c3] at z
          exact codeO_lst (Option.some.inj z).symm
        rw [upd_ne ne]
        exact z
      exact paired_app (mk1.mono (Ex.refl F1) up) (Paired.mapP mk fun a b r => r.mono e1 fun c q z => up c q ((sty c _ z).ext))
/-- x = [(lambda: .., (..))] -/
theorem m_new {x : Str} {p0 lp : Pos} (hNn : X.N.Nodup) (hit : PE X item (liftIt X.K Z q cells l)) (hr : PSm X rest (liftM X.K Z i q cells LS [l])) (hN : X.N[i]? = some x := by rfl) (hx : Loc X.env.scope x := by first | exact Or.inl rfl | exact Or.inr rfl)
    (h4 : starEach [item] X.env = (false, eval item X.env) :: starEach [] X.env := by rfl) (hs : swapsWith (.List [item] lp) (some (.Name x p0)) pos.line X.env = pure false := by rfl)
    (hf : X.fn x = true ∨ X.env.scope.names.lookup x = some .local := by first | exact .inl rfl | exact .inr rfl) : PSm X (.Assign [.Name x p0] (.List [item] lp) pos :: rest) (liftM1 X.K Z i q cells LS) :=
  PSm.of (psm_cons (ps_set hNn hN hx (pe_lst (pa_cons hit pa_nil h4)) hs hf) hr) fun Pm σ H ⟨g, F, env, PP, k, ⟨np, hlen⟩, p, q⟩ => by
    refine ⟨g, F, env, k, fun t f F1 H1 e1 sty k1 r1 mk1 => ⟨by simp [sizeLine_eq], fun a ha => ?_⟩⟩
    obtain ⟨k2, r2⟩ := k1.newCell ha (.one r1)
    have k3 := k2.setR np r2 (fun xs z => by cases z)
    have he : (env.set i (SD.cel false [itemM l f]))[i]? = some (.cel false [itemM l f]) := List.getElem?_set_self hlen
    exact ⟨g, F1, _, PP, [f], k3, he, .cons (mk1.mono (Ex.refl F1) fun c q z => by rw [upd_ne (ne_of_none z ha)]; exact z) .nil, by rw [List.set_set]; exact p, q.ex e1⟩
/-- the statement ahead of it -/
theorem m_first {m : Nat} {w : DS} {st : Stmt} (h1 : PS X st (liftS X.K Z m w)) (h2 : PSm X rest (liftM1 X.K Z i q cells LS)) : PSm X (st :: rest) (liftM0 X.K Z i q cells LS w) :=
  PSm.of (psm_cons h1 h2) fun Pm σ H ⟨g, F, env, PP, k, p, q⟩ => ⟨g, F, env, _, k, p, .mk4 (.mk (fun env' σ' F' H' p' e' k' => by
    obtain ⟨b, p'⟩ := bIf_and p'
    rw [Bool.and_eq_true] at b
    exact ⟨g, F', env', PP, k', ⟨b.1, Nat.le_of_ble_eq_true b.2⟩, p', q.ex e'⟩) (fun _ _ _ _ z => z.elim) (fun _ _ _ _ z => z.elim) (fun _ _ _ _ _ _ z => z.elim)) rfl⟩
end
/-- a cell's content -/
def cellOf (h : Heap) (c : Addr) : Option Value := match h.get? c with
  | some o => (match o.data with
    | .cell w => w
    | _ => none)
  | none => none
theorem cellOf_is {h : Heap} {c : Addr} {v : Option Value} (e : h.IsCell c v) : cellOf h c = v := by
  obtain ⟨o, h1, h2⟩ := e
  unfold cellOf
  rw [h1]
  dsimp only
  rw [h2]
open Classical in
/-- the frame's cells are looked at from now on -/
noncomputable def trkC (H : Hp) (h : Heap) (cells : List (Str × Addr)) : Hp := fun b => if ∃ x, cells.lookup x = some b then some (CelE b (cellOf h b)) else H b
section
variable {P : Program} {w : World} {fs : List Addr} {H H' : Hp} {h h' : Heap} {cells : List (Str × Addr)}
theorem trkC_cell {x : Str} {c : Addr} (e : cells.lookup x = some c) : trkC H' h' cells c = some (CelE c (cellOf h' c)) := by
  unfold trkC
  rw [if_pos ⟨x, e⟩]
theorem trkC_old (hn : ∀ x c, cells.lookup x = some c → H' c = none) {b : Addr} {o : HO} (e : H' b = some o) : trkC H' h' cells b = some o := by
  unfold trkC
  rw [if_neg]
  · exact e
  · rintro ⟨x, z⟩
    rw [hn x b z] at e
    cases e
theorem trkC_un (hn : ∀ x c, cells.lookup x = some c → H' c = none) (hz : ∀ x c, cells.lookup x = some c → h.objs.size ≤ c) (u : Un fs [] H H' h h') : Un fs [] H (trkC H' h' cells) h h' where
  keep := u.keep
  slot := u.slot
  free := fun b o e n hx => by
    unfold trkC
    rw [if_neg]
    · exact u.free b o e n hx
    · rintro ⟨x, z⟩
      exact absurd (Nat.lt_of_lt_of_le (Heap.lt_size e) (hz x b z)) (Nat.lt_irrefl _)
  there := u.there
  tups := fun b xs e => trkC_old hn (u.tups b xs e)
  frzs := fun b o x e => trkC_old hn (u.frzs b o x e)
  tbls := fun b ps e => by
    obtain ⟨m, z⟩ := u.tbls b ps e
    exact ⟨m, trkC_old hn z⟩
theorem trkC_ok (hn : ∀ x c, cells.lookup x = some c → H' c = none) (hc : ∀ x c, cells.lookup x = some c → ∃ v, h'.IsCell c v) (k : HOk P w H' h') : HOk P w (trkC H' h' cells) h' := fun b o e => by
  by_cases z : ∃ x, cells.lookup x = some b
  · obtain ⟨x, z⟩ := z
    rw [trkC_cell z] at e
    cases e
    obtain ⟨v, hv⟩ := hc x b z
    have hv2 := hv
    obtain ⟨o, ho, _⟩ := hv
    rw [cellOf_is hv2]
    exact ⟨hv2, ⟨o, ho⟩, fun h1 h2 ⟨o, y1, y2⟩ kp => ⟨o, kp o y1, y2⟩⟩
  · have e' : H' b = some o := by
      unfold trkC at e
      rw [if_neg z] at e
      exact e
    exact (k b o e').stay (fun c u _ q => q) (fun c q => trkC_old hn q) fun c xs q => trkC_old hn q
theorem trkC_post {K : PySem.W.Frag} {F F' : Hp} {vs : List V} {as as' : List SD} {v : V} {xs : List PyData} (hn : ∀ x c, cells.lookup x = some c → H' c = none) (nc : NoCel as) (p : PostOk T K F H vs as F' H' as' v (.cel false xs)) : PostOk T K F H vs as F' (trkC H' h' cells) as' v (.cel false xs) where
  ex := p.ex
  nt := p.nt
  fh := fun a o e => trkC_old hn (p.fh a o e)
  newF := p.newF
  frame := ⟨fun a o e n => by
    rcases p.frame.stay a o e n with z | ⟨ps, more, e1, z⟩
    · exact .inl (trkC_old hn z)
    · exact .inr ⟨ps, more, e1, trkC_old hn z⟩, p.frame.tab.ext fun b o e => trkC_old hn e⟩
  cel := fun i p xs a e => absurd e (nc i p xs)
  res := by
    obtain ⟨a, us, h1, h2, h3, h4, h5⟩ := p.res
    exact ⟨a, us, h1, h2, trkC_old hn h3, h4, h5⟩
end
/-- the cells and what they hold -/
structure Made (K : PySem.W.Frag) (F H : Hp) (cells : List (Str × Addr)) (sc : Scope) (N : List Str) (σ : L2.St) (env : List SD) : Prop where
  inj : ∀ (x y : Str) (c : Addr), cells.lookup x = some c → cells.lookup y = some c → x = y
  has : ∀ (x : Str), (sc.names.lookup x = some .cell ∨ sc.names.lookup x = some .free) → ∃ c, cells.lookup x = some c
  cel : ∀ (x : Str) (c : Addr), cells.lookup x = some c → F c = none ∧ ∃ w, H c = some (CelE c w)
  val : ∀ (x : Str) (c : Addr) (i : Nat) (v : V) (w : Option Value), cells.lookup x = some c → N[i]? = some x → σ[i]? = some (some v) → (sc.names.lookup x = some .cell ∨ sc.names.lookup x = some .free) → H c = some (CelE c w) → ∃ u, RelV v u ∧ w = some u
  dat : ∀ (i : Nat) (d : PyData), env[i]? = some (.dat d) → ∃ v, σ[i]? = some (some v) ∧ DR K F v d
  len : σ.length = N.length
  len2 : env.length = σ.length
theorem celE_inj {c : Addr} {w w' : Option Value} (h : some (CelE c w) = some (CelE c w')) : w = w' := by
  injection h with h
  injection h with h
  have e : (({ objs := Array.replicate c { cls := .none, data := .plain } } : Heap).push { cls := .none, data := .cell w }).IsCell c w := ⟨{ cls := .none, data := .cell w }, by
    have := Heap.get?_push_size { objs := Array.replicate c { cls := .none, data := .plain } } (o := { cls := .none, data := .cell w }) rfl
    simpa using this, rfl⟩
  have e2 := (congrFun h _).mp e
  exact (cellOf_is e).symm.trans (cellOf_is e2)
abbrev DSpM := List SD → (List SD → Prop) → Prop
structure FnM (P : Program) (w : World) (K : PySem.W.Frag) (mg : Str → Option Value) (base : Heap) (T : List (Addr × Str)) (k : Nat) (f : Addr) (fd : FuncData) (ps : List Str) (q : Str) (sc : Scope) (N : List Str) (LS : List (LamC0 × List Int)) (S : DSpM) : Prop where
  len : ∀ as Q, S as Q → as.length = ps.length
  nc : ∀ as Q, S as Q → NoCel as
  go : ∀ (A : Around) (outer : List Env) (s : Shared) (H : Hp) (args : Args) (us : List Value) (vs : List V) (Q : VK), Room k A → A.guards = some [] → Env0 P w K mg base A outer s H → BindsTo s fd args (ps.zip us) → Vals vs us →
    (∃ (F : Hp) (as : List SD) (PP : List SD → Prop), ArgsOk T K F H vs as ∧ S as PP ∧ ∀ (env : List SD) (fs : List Nat) (cells : List (Str × Addr)) (σ : L2.St) (v : V) (F' H' : Hp) (as' : List SD), PP env →
      PostOk T K F H vs as F' H' as' v (.cel false (itmsM LS fs)) → Made K F' H' cells sc N σ env → Paired (MkRec q cells F' H') LS fs → Q v H') → codeAny (model P w) A (.call (.ref f) args) (CR CX0 outer P w H s Q E0) s
structure DnM (P : Program) (w : World) (K : PySem.W.Frag) (mg : Str → Option Value) (base : Heap) (T : List (Addr × Str)) (x : Str) (k : Nat) (ps : List Str) (q : Str) (sc : Scope) (N : List Str) (LS : List (LamC0 × List Int)) (S : DSpM) : Prop where
  ex : ∃ fd, FnM P w K mg base T k (He.ga K x) fd ps q sc N LS S ∧ Binds K fd ps []
  glo : mg x = some (.ref (He.ga K x))
  kp : PySem.W.keepIn K (.ref (He.ga K x)) = true
section
variable {P : Program} {w : World} {K : PySem.W.Frag} {mg : Str → Option Value} {base : Heap}
theorem dfnM (lam : List ((Str × Option Str) × Str)) [LB : LamB K base mg T lam] {gx qual : Str} {st : Stmt} {fd : FuncData} {N ps : List Str} {k i : Nat} {LS : List (LamC0 × List Int)} {S : DSpM} (j : Nat) (Fn : Fun K qual qual st (He.ga K gx) fd) (sc : FnScope N ps (defScope st)) (len : ∀ as Q, S as Q → as.length = ps.length) (nc : ∀ as Q, S as Q → NoCel as)
    (hi : lam[j]? = some ((gx, none), qual ++ ".<locals>." ++ "<lambda>"))
    (hbody : ∀ {Z : Zx T} (cdv : Value) (A : Around) (outer : List Env) (s : Shared) (H : Hp), LamC base mg T cdv (qual ++ ".<locals>.") → Room k (A.deeper (envOfC qual (defScope st) s.heap.objs.size (He.ga K gx) cdv)) → (A.deeper (envOfC qual (defScope st) s.heap.objs.size (He.ga K gx) cdv)).guards = some [] →
      ∃ t : DS, PSm (cxOf CX0 P w K mg base N qual (defScope st) (He.ga K gx) cdv A outer s H E0).nox (defBody st) (liftM0 K Z i (qual ++ ".<locals>." ++ "<lambda>") (cellsFrom (s.heap.objs.size + 1) (defScope st).names []) LS t) ∧
        ∀ as PP, S as PP → t { nx := fun env => bIf (noPar env i && Nat.blt i env.length) (PP (env.set i .un)) False, rt := fun _ _ => False } (as ++ List.replicate (N.length - ps.length) .un)) :
    FnM P w K mg base T (k + 1) (He.ga K gx) fd ps (qual ++ ".<locals>." ++ "<lambda>") (defScope st) N LS S := by
  obtain ⟨oc, od, kV, doc, pm, an, cdv, ct, osl, rfl, lk, hcd⟩ := Fn.ex
  obtain ⟨c0, PT, h1, h2, h3⟩ := LB.out _ (List.mem_of_getElem? hi)
  have LC : LamC base mg T cdv (qual ++ ".<locals>.") := ⟨c0, PT, tabIn_code (x := (gx, none)) h1 lk, h2, h3, fun p hp z => LB.uni p hp _ h3 z⟩
  refine ⟨len, nc, fun A outer s H args us vs Q hr hg e0 hb rv ⟨F0, as, PP, ha, hS, hQ⟩ => ?_⟩
  have hl : vs.length = ps.length := ha.len.symm.trans (len as PP hS)
  have hpl : ps.length ≤ N.length := by
    have := congrArg List.length sc.pre
    rw [List.length_take] at this
    omega
  have KX : K.In s.heap := e0.mod.kin.keeps fun b o e => (e0.bs b o e).1
  refine codeAny_call_function hr.depth (KX _ _ lk) rfl sc.co sc.gen rfl (PySem.W.codeRec_of KX hcd) (hb _ _ _ _ (wpAny_newFunctionEnv_cells sc.kind (fun ⟨n, v⟩ hy => ?_) fun env he s1 y => ?_))
  · rcases sc.par n (List.of_mem_zip hy).1 with q | q
    · exact .inl q
    · exact .inr ⟨q, PySem.W.cellsFrom_some _ _ _ (.inl q)⟩
  · subst he
    obtain ⟨t, ht, hq⟩ := hbody (Z := entryZ T P w F0 H vs as) cdv A outer s H LC (hr.deeper _) hg
    have I : Inv (cxOf CX0 P w K mg base N qual (defScope st) (He.ga K gx) cdv A outer s H E0) [] (start N vs) H s1 := inv_start sc hr.hd e0 hl rv y
    refine ⟨(e0.mod.nolimit.keeps fun b o e => (e0.bs b o e).1).keeps y.toInCall.keep, codeAny_func (wpAny_mono (ht.nox.run s1 (start N vs) H (fun v σ' H' => ∃ (env' : List SD) (fs : List Nat) (F' : Hp), PP env' ∧ Ok K (entryG T P w F0 H vs as) F' env' σ' H' ∧
        ResOk K (entryG T P w F0 H vs as) F' env' σ' H' v (.cel false (itmsM LS fs)) ∧ Paired (MkRec (qual ++ ".<locals>." ++ "<lambda>") (cellsFrom (s.heap.objs.size + 1) (defScope st).names []) F' H') LS fs) I ?_) (fun fl s' hs => ?_) fun e s' hs => hs)⟩
    · have al : as.length = ps.length := len as PP hS
      exact ⟨entryG T P w F0 H vs as, F0, _, _, entry_ok ha al hpl, hq as PP hS, fun env' fs v F' σ' H' p _ k' r' m' => ⟨env', fs, F', p, k', r', m'⟩⟩
    · match fl, hs with
      | .next, z => exact z.elim
      | .brk, z => exact z.elim
      | .cont, z => exact z.elim
      | .ret u, ⟨v, σ', H', J, r, env', fs, F', p, k', r', m'⟩ =>
        have hn : ∀ x c, (cellsFrom (s.heap.objs.size + 1) (defScope st).names []).lookup x = some c → H' c = none := fun x c e => J.freeC x c e
        have hz : ∀ x c, (cellsFrom (s.heap.objs.size + 1) (defScope st).names []).lookup x = some c → s.heap.objs.size ≤ c := fun x c e => J.ok.cab x c rfl e
        have hc : ∀ x c, (cellsFrom (s.heap.objs.size + 1) (defScope st).names []).lookup x = some c → ∃ v, s'.heap.IsCell c v := fun x c e => J.cell x c e
        refine ⟨v, trkC H' s'.heap (cellsFrom (s.heap.objs.size + 1) (defScope st).names []), J.os, J.bare, trkC_un hn hz J.base, trkC_ok hn hc J.hok, r, ?_⟩
        refine hQ env' fs _ σ' v F' _ (env'.take 0) p (trkC_post hn (nc _ _ hS) (post_of k' (fun i p xs e => absurd e (nc _ _ hS i p xs)) r')) ⟨J.ok.inj, fun x hx => J.ok.has x hx, fun x c e => ⟨fnone k'.fh (hn x c e), _, trkC_cell e⟩, fun x c i v w e hN hσ hk hw => ?_, k'.dat, J.len, k'.len⟩ (Paired.mapP m' fun a b z => z.mono (Ex.refl F') fun c q y => trkC_old hn y)
        obtain ⟨m, hm, hl⟩ := J.loc
        obtain ⟨u, ru, lu⟩ := hl i x v hN hσ (hk.elim (fun z => .inr (.inl z)) fun z => .inr (.inr z))
        refine ⟨u, ru, ?_⟩
        rcases lu with ⟨kk, _⟩ | ⟨_, c2, e2, hcell⟩
        · have kk : (defScope st).names.lookup x = some .local := kk
          rcases hk with z | z <;> rw [z] at kk <;> cases kk
        · have e2 : (cellsFrom (s.heap.objs.size + 1) (defScope st).names []).lookup x = some c2 := e2
          obtain rfl : c = c2 := Option.some.inj ((show (cellsFrom (s.heap.objs.size + 1) (defScope st).names []).lookup x = some c from e).symm.trans e2)
          have z := celE_inj ((trkC_cell e).symm.trans hw)
          rw [← z, cellOf_is hcell]
end
end DL

namespace DL
variable {T : List (PySem.Addr × PySem.Str)} {Z : Zx T}
open PySem PySem.Spec PyProof.Rows L2 PySem.W
open Evl (Ex)
def cloCx (P : Program) (w : World) (K : PySem.W.Frag) (mg : Str → Option Value) (base : Heap) (N : List Str) (A : Around) (outer : List Env) (s : Shared) (H : Hp) (E : XK) (q : Str) (scope : Scope) (f c' : Addr) (cells : List (Str × Addr)) : Cx where
  prog := P
  w := w
  K := K
  mg := mg
  base := base
  A := A.deeper (PySem.W.envX q scope s.heap.objs.size f (.ref c') (cloFrom cells scope.names []))
  N := N
  s_0 := s
  H_0 := H
  env := PySem.W.envX q scope s.heap.objs.size f (.ref c') (cloFrom cells scope.names [])
  outer := outer
  stack := PySem.W.envX q scope s.heap.objs.size f (.ref c') (cloFrom cells scope.names []) :: outer
  ex := []
  fn := fun _ => false
  calm := true
  pn := []
  xe := fun e s' => wpAny (model P w) (A.deeper (PySem.W.envX q scope s.heap.objs.size f (.ref c') (cloFrom cells scope.names []))) (leaving (PySem.W.envX q scope s.heap.objs.size f (.ref c') (cloFrom cells scope.names [])) e) (fun _ s'' => L2N.CX P w outer H s E e s'') (fun e' s'' => L2N.CX P w outer H s E e' s'') s'
section
variable {P : Program} {w : World} {K : PySem.W.Frag} {mg : Str → Option Value} {base : Heap} {N : List Str} {A : Around} {outer : List Env} {s1 : Shared} {HZ : Hp} {σ : L2.St} {cells : List (Str × Addr)} {sc scope : Scope}
theorem clo_start {E : XK} {q : Str} {f c' : Addr} {h₁ : Heap} {tk : Nat} (inj : ∀ x y c, cells.lookup x = some c → cells.lookup y = some c → x = y) (has : ∀ x, (sc.names.lookup x = some .cell ∨ sc.names.lookup x = some .free) → ∃ c, cells.lookup x = some c)
    (cel : ∀ x c, cells.lookup x = some c → HZ c = none ∧ ∃ v, s1.heap.IsCell c v) (val : ∀ (x : Str) (c : Addr) (i : Nat) (v : V), cells.lookup x = some c → N[i]? = some x → σ[i]? = some (some v) → (sc.names.lookup x = some .cell ∨ sc.names.lookup x = some .free) → ∃ u, RelV v u ∧ s1.heap.IsCell c (some u)) (len : σ.length = N.length)
    (L : LamX.LamS sc scope) (e0 : Env0 P w K mg base A outer s1 HZ) (hd : A.handled = none) (hns : h₁.Ns s1.heap.objs.size fun y => ([] : List (Str × Value)).reverse.lookup y) (kp : ∀ b o, s1.heap.get? b = some o → h₁.get? b = some o) :
    Inv (cloCx P w K mg base N A outer s1 HZ E q scope f c' cells) [] σ HZ { s1 with heap := h₁, toks := tk } := by
  have hfree : ∀ y ∈ scope.names, y.2 = .free → ∃ c, cells.lookup y.1 = some c := fun y hy e => has _ (L.free y hy e)
  have cm : ∀ {y c}, (cloFrom cells scope.names []).lookup y = some c → cells.lookup y = some c := fun {y c} e => by
    rcases cloFrom_mem (PySem.mem_of_lookup e) with hm | ⟨h1, h2⟩
    · cases hm
    · obtain ⟨c1, hc⟩ := hfree _ h1 rfl
      have hc : cells.lookup y = some c1 := hc
      have e2 : c = c1 := by
        rw [h2, hc] <;> rfl
      rw [e2]
      exact hc
  have look : ∀ {y}, scope.names.lookup y = some .free → ∃ c, (cloFrom cells scope.names []).lookup y = some c := fun {y} hl => by
    have hy : (y, NameKind.free) ∈ scope.names := PySem.mem_of_lookup hl
    exact mem_lookup (cloFrom_has (cells := cells) (acc := []) hy)
  have cellK : ∀ {c : Addr} {v : Option Value}, s1.heap.IsCell c v → h₁.IsCell c v := fun {c v} ⟨o, ho, hd⟩ => ⟨o, kp _ _ ho, hd⟩
  have noA : ∀ b : Addr, b ∉ (cloCx P w K mg base N A outer s1 HZ E q scope f c' cells).ex := fun b z => absurd (show b ∈ ([] : List Addr) from z) (by simp)
  refine ⟨⟨e0.mod, L.kind, rfl, rfl, Nat.le_refl _, fun y z c e1 e2 => inj y z c (cm e1) (cm e2), fun y hy => ?_, fun y c z _ => ?_, fun _ => hd, Around.frames_deeper e0.frames, .inr ⟨rfl, rfl⟩, fun b z => absurd z (noA b), e0.bs, e0.bsz, fun b _ _ => noA b,
      fun b z => absurd z (noA b), e0.funs, e0.frf⟩,
    rfl, e0.bare, Un.kept kp, ⟨_, hns, fun i y v e1 e2 e3 => ?_⟩, fun y c e => ?_, e0.hok.fresh (Nat.le_refl _), fun y c e => ?_, fun q hq => absurd (show q ∈ ([] : List (Addr × Obj)) ++ [] from hq) (by simp), e0.hok.kept kp, len⟩
  · have hy : scope.names.lookup y = some .cell ∨ scope.names.lookup y = some .free := hy
    rcases hy with hy | hy
    · exact absurd rfl (L.own _ (PySem.mem_of_lookup hy)).2
    · exact look hy
  · have z : false = true := z
    cases z
  · have e3 : Vis scope y := e3
    rcases e3 with k | k | k
    · exact absurd rfl (L.own _ (PySem.mem_of_lookup k)).1
    · exact absurd rfl (L.own _ (PySem.mem_of_lookup k)).2
    · obtain ⟨c2, h2⟩ := look k
      obtain ⟨u, r, hu⟩ := val y c2 i v (cm h2) e1 e2 (L.free _ (PySem.mem_of_lookup k) rfl)
      exact ⟨u, r, .inr ⟨.inr k, c2, h2, cellK hu⟩⟩
  · obtain ⟨w', z⟩ := (cel y c (cm e)).2
    exact ⟨w', cellK z⟩
  · exact (cel y c (cm e)).1
end
open Classical in
noncomputable def hidC (H : Hp) (cells : List (Str × Addr)) : Hp := fun b => if ∃ x, cells.lookup x = some b then none else H b
open Classical in
noncomputable def unhC (H H' : Hp) (cells : List (Str × Addr)) : Hp := fun b => if ∃ x, cells.lookup x = some b then H b else H' b
section
variable {P : Program} {w : World} {K : PySem.W.Frag} {mg : Str → Option Value} {base : Heap} {fs : List Addr} {F F' H H' : Hp} {h h' : Heap} {cells : List (Str × Addr)}
theorem hid_cell {x : Str} {c : Addr} (e : cells.lookup x = some c) : hidC H cells c = none := by
  unfold hidC
  rw [if_pos ⟨x, e⟩]
theorem hid_no {b : Addr} (e : ¬ ∃ x, cells.lookup x = some b) : hidC H cells b = H b := by
  unfold hidC
  rw [if_neg e]
theorem unh_cell {x : Str} {c : Addr} (e : cells.lookup x = some c) : unhC H H' cells c = H c := by
  unfold unhC
  rw [if_pos ⟨x, e⟩]
theorem unh_no {b : Addr} (e : ¬ ∃ x, cells.lookup x = some b) : unhC H H' cells b = H' b := by
  unfold unhC
  rw [if_neg e]
theorem hid_of {b : Addr} {o : HO} (e : hidC H cells b = some o) : H b = some o ∧ ¬ ∃ x, cells.lookup x = some b := by
  by_cases z : ∃ x, cells.lookup x = some b
  · obtain ⟨x, z⟩ := z
    rw [hid_cell z] at e
    cases e
  · rw [hid_no z] at e
    exact ⟨e, z⟩
/-- cells are tracked as such -/
def CelsH (H : Hp) (cells : List (Str × Addr)) : Prop := ∀ x c, cells.lookup x = some c → ∃ w, H c = some (CelE c w)
theorem CelsAt.no (C : CelsH H cells) {b : Addr} {o : HO} (e : H b = some o) (n : ∀ w, o ≠ CelE b w) : ¬ ∃ x, cells.lookup x = some b := fun ⟨x, z⟩ => by
  obtain ⟨w, hw⟩ := C x b z
  rw [e] at hw
  exact n w (Option.some.inj hw)
theorem hid_keep (C : CelsH H cells) {b : Addr} {o : HO} (e : H b = some o) (n : ∀ w, o ≠ CelE b w) : hidC H cells b = some o := by
  rw [hid_no (CelsAt.no C e n)]
  exact e
theorem hid_hok (C : CelsH H cells) (k : HOk P w H h) : HOk P w (hidC H cells) h := fun b o e =>
  (k b o (hid_of e).1).stay (fun c u _ q => q) (fun c q => hid_keep C q fun _ z => by cases z) fun c xs q => hid_keep C q fun _ z => by cases z
theorem hid_none {b : Addr} (n : H b = none) : hidC H cells b = none := by
  unfold hidC
  split
  · rfl
  · exact n
theorem hid_env {A : Around} {outer : List Env} {s : Shared} (C : CelsH H cells) (e0 : Env0 P w K mg base A outer s H) : Env0 P w K mg base A outer s (hidC H cells) :=
  ⟨e0.frames, e0.mod, fun b o e => ⟨(e0.bs b o e).1, hid_none (e0.bs b o e).2⟩, e0.bsz, e0.funs, fun b hb => hid_none (e0.frf b hb), hid_hok C e0.hok, e0.bare⟩
/-- a code object is no cell -/
theorem code_nc (C : CelsH H cells) (k : HOk P w H h) {c : Addr} {q : Str} (e : H c = some (LamX.CodeO c q)) : ¬ ∃ x, cells.lookup x = some c := fun ⟨x, z⟩ => by
  obtain ⟨wv, hw⟩ := C x c z
  obtain ⟨⟨oc, vs, t, h1, h2, h3⟩, _, _⟩ := k c _ e
  obtain ⟨⟨o, h4, h5⟩, _, _⟩ := k c _ hw
  rw [h1] at h4
  cases h4
  rw [h2] at h5
  cases h5
theorem hid_tabs {h : Heap} (C : CelsH H cells) (k : HOk P w H h) (t : LamX.Tabs T H) : LamX.Tabs T (hidC H cells) := fun p hp => by
  obtain ⟨ps, h1, h2, h3⟩ := t p hp
  refine ⟨ps, hid_keep C h1 (fun _ z => by cases z), h2, fun pos cv hc => ?_⟩
  obtain ⟨c, e1, e2⟩ := h3 pos cv hc
  exact ⟨c, e1, by rw [hid_no (code_nc C k e2)]; exact e2⟩
/-- behind it -/
theorem unh_none (C : CelsH H cells) (k : HOk P w H h) (u : Un fs [] (hidC H cells) H' h h') {x : Str} {c : Addr} (e : cells.lookup x = some c) : H' c = none := by
  obtain ⟨wv, hw⟩ := C x c e
  obtain ⟨_, ⟨o, ho⟩, _⟩ := k c _ hw
  exact u.free c o ho (hid_cell e) (by simp)
theorem unh_keep (C : CelsH H cells) (k : HOk P w H h) (u : Un fs [] (hidC H cells) H' h h') {b : Addr} {o : HO} (e : H' b = some o) : unhC H H' cells b = some o := by
  rw [unh_no fun ⟨x, z⟩ => by rw [unh_none C k u z] at e; cases e]
  exact e
theorem unh_un (C : CelsH H cells) (k : HOk P w H h) (u : Un fs [] (hidC H cells) H' h h') : Un fs [] H (unhC H H' cells) h h' := by
  have nc : ∀ {b}, H b = none → ¬ ∃ x, cells.lookup x = some b := fun n ⟨x, z⟩ => by
    obtain ⟨wv, hw⟩ := C x _ z
    rw [n] at hw
    cases hw
  have hn : ∀ {b}, H b = none → hidC H cells b = none := fun n => by rw [hid_no (nc n)]; exact n
  exact ⟨fun b o e n h1 h2 => u.keep b o e (hn n) h1 h2, fun b o e n h1 h2 => u.slot b o e (hn n) h1 h2, fun b o e n h1 => by rw [unh_no (nc n)]; exact u.free b o e (hn n) h1, u.there,
    fun b xs e => unh_keep C k u (u.tups b xs (hid_keep C e fun _ z => by cases z)), fun b o x e => unh_keep C k u (u.frzs b o x (hid_keep C e fun _ z => by cases z)), fun b ps e => by
      obtain ⟨m, z⟩ := u.tbls b ps (hid_keep C e fun _ z => by cases z)
      exact ⟨m, unh_keep C k u z⟩⟩
theorem unh_hok (hf : ∀ b ∈ fs, H b = none) (C : CelsH H cells) (k : HOk P w H h) (u : Un fs [] (hidC H cells) H' h h') (k' : HOk P w H' h') : HOk P w (unhC H H' cells) h' := fun b o e => by
  by_cases z : ∃ x, cells.lookup x = some b
  · obtain ⟨x, z⟩ := z
    rw [unh_cell z] at e
    obtain ⟨wv, hw⟩ := C x b z
    rw [hw] at e
    cases e
    obtain ⟨h1, ⟨o, ho⟩, st⟩ := k b _ hw
    have kp := u.keep b o ho (hid_cell z) (fun hb => by rw [hf b hb] at hw; cases hw) (by simp)
    exact ⟨st _ _ h1 fun o' q => by rw [ho] at q; cases q; exact kp, ⟨o, kp⟩, st⟩
  · rw [unh_no z] at e
    exact (k' b o e).stay (fun c u _ q => q) (fun c q => unh_keep C k u q) fun c xs q => unh_keep C k u q
theorem unh_post {v : V} {r : SD} (C : CelsH H cells) (k : HOk P w H h) (u : Un fs [] (hidC H cells) H' h h') (p : PostOk T K F (hidC H cells) [] [] F' H' [] v r) : PostOk T K F H [] [] F' (unhC H H' cells) [] v r where
  ex := p.ex
  nt := p.nt
  fh := fun a o e => unh_keep C k u (p.fh a o e)
  newF := fun a o e => by
    have nz : ¬ ∃ x, cells.lookup x = some a := fun ⟨x, z⟩ => by
      have := p.fh a o e
      rw [unh_none C k u z] at this
      cases this
    rcases p.newF a o e with z | z
    · exact .inl z
    · rw [hid_no nz] at z
      exact .inr z
  frame := ⟨fun a o e n => by
    by_cases z : ∃ x, cells.lookup x = some a
    · obtain ⟨x, z⟩ := z
      rw [unh_cell z]
      exact .inl e
    · rw [unh_no z]
      exact p.frame.stay a o (by rw [hid_no z]; exact e) n, p.frame.tab.ext fun b o e => unh_keep C k u e⟩
  cel := fun i p xs a e => by cases e
  res := by
    have pr := p.res
    cases r with
    | un => exact pr
    | dat d => exact pr
    | dic kvs => exact pr.elim
    | cel b xs =>
      obtain ⟨a, us, h1, h2, h3, h4, h5⟩ := pr
      have nz : ¬ ∃ x, cells.lookup x = some a := fun ⟨x, z⟩ => by
        rw [unh_none C k u z] at h3
        cases h3
      exact ⟨a, us, h1, h2, unh_keep C k u h3, h4, by rw [hid_no nz] at h5; exact h5⟩
theorem unh_ce {outer : List Env} {s s' : Shared} {Q1 Q : VK} {u : Value} (hf : ∀ b ∈ frs outer, H b = none) (C : CelsH H cells) (k : HOk P w H s.heap) (c : CE outer P w (hidC H cells) s Q1 u s')
    (hq : ∀ v H2, Un (frs outer) [] (hidC H cells) H2 s.heap s'.heap → Q1 v H2 → Q v (unhC H H2 cells)) : CE outer P w H s Q u s' := by
  obtain ⟨v, H2, os, bare, un, hok, r, q⟩ := c
  exact ⟨v, unhC H H2 cells, os, bare, unh_un C k un, unh_hok hf C k un hok, r, hq v H2 un q⟩
end
end DL

namespace DL
variable {T : List (PySem.Addr × PySem.Str)} {Z : Zx T}
open PySem PySem.Spec PyProof.Rows L2 PySem.W
open Evl (Ex)
theorem Made.mono {K : PySem.W.Frag} {F F' H H' : Hp} {cells : List (Str × Addr)} {sc : Scope} {N : List Str} {σ : L2.St} {env : List SD} (m : Made K F H cells sc N σ env) (e : Ex F F') (hF : ∀ x c, cells.lookup x = some c → F' c = none) (h : ∀ (a : Addr) (φ : Heap → Prop), H a = some (.ext φ) → H' a = some (.ext φ)) : Made K F' H' cells sc N σ env where
  inj := m.inj
  has := m.has
  cel := fun x c z => ⟨hF x c z, let ⟨w, hw⟩ := (m.cel x c z).2; ⟨w, h _ _ hw⟩⟩
  val := fun x c i v w z h1 h2 h3 h4 => by
    obtain ⟨w0, hw⟩ := (m.cel x c z).2
    have e0 := celE_inj ((h _ _ hw).symm.trans h4)
    subst e0
    exact m.val x c i v w0 z h1 h2 h3 hw
  dat := fun i d z => by
    obtain ⟨v, h1, h2⟩ := m.dat i d z
    exact ⟨v, h1, h2.mono e⟩
  len := m.len
  len2 := m.len2
theorem Made.cels {K : PySem.W.Frag} {F H : Hp} {cells : List (Str × Addr)} {sc : Scope} {N : List Str} {σ : L2.St} {env : List SD} (m : Made K F H cells sc N σ env) : CelsH H cells := fun x c z => (m.cel x c z).2
theorem MkRec.monoE {q : Str} {cells : List (Str × Addr)} {F F' H H' : Hp} {l : LamC0 × List Int} {f : Nat} (r : MkRec q cells F H l f) (e : Ex F F') (h : ∀ (a : Addr) (φ : Heap → Prop), H a = some (.ext φ) → H' a = some (.ext φ)) : MkRec q cells F' H' l f := r.mono e fun c q z => h _ _ z
theorem Ok.thunkM {K : PySem.W.Frag} {F F1 H Hh H1 : Hp} {cells : List (Str × Addr)} {sc : Scope} {N : List Str} {σ : L2.St} {env : List SD} {P : Program} {w : World} (m : Made K F H cells sc N σ env) (p : PostOk T K F Hh [] [] F1 H1 [] .non (.dat .none)) : Ok K (entryG T P w F1 H1 [] []) F1 (datOf env) σ H1 where
  len := by unfold datOf; rw [List.length_map]; exact m.len2
  fh := p.fh
  dat := fun i d e => by
    rcases datOf_get e with z | ⟨d', z, e'⟩
    · cases z
    · cases z
      obtain ⟨v, h1, h2⟩ := m.dat i d e'
      exact ⟨v, h1, h2.mono p.ex⟩
  cel := fun i p xs e => by
    rcases datOf_get e with z | ⟨d', z, _⟩ <;> cases z
  sep := fun i j p q xs ys a e => by
    rcases datOf_get e with z | ⟨d', z, _⟩ <;> cases z
  pin := fun i a e => by
    obtain ⟨p, xs, h1, h2⟩ := cellsAt_inv (vs := []) (as := []) (i := i) e
    cases h1
  frame := Frm.refl p.frame.tab
  newF := fun a o e => .inl e
  oldF := ⟨Ex.refl F1, p.nt⟩
  prot := fun a o e => by cases e
  dic := DicsOk.none fun i w e => by
    rcases datOf_get e with z | ⟨d', z, _⟩ <;> cases z
section
variable {X : Cx} {pins : List (Addr × Obj)} {σL : L2.St} {H : Hp} {s : Shared} {g : Gx Z} {F : Hp} {envL : List SD} {q : Str} {cells : List (Str × Addr)} {sc : Scope} {N : List Str} {σ : L2.St} {env : List SD}
/-- a lambda's body, wherever it runs -/
abbrev BodyM (X : Cx) (T : List (Addr × Str)) (q : Str) (sc : Scope) (N : List Str) (l : LamC0) (k : Nat) (wx : (Str → Prop) → DX) : Prop := LamX.LamS sc l.scope ∧ (∀ (cl : List (Str × Addr)) (pm cv ctv : Value), bindArgs (kla_fn "<lambda>" q l.params l.body l.scope cl pm cv ctv) ⟨[], []⟩ = pure []) ∧
  ∀ {Z' : Zx T} (cells : List (Str × Addr)) (f c' : Addr) (Ec : Str → Prop) (A : Around) (outer : List Env) (s : Shared) (H : Hp) (E : XWish), L2N.Takes (cloCx X.prog X.w X.K X.mg X.base N A outer s H E q l.scope f c' cells) (liftW X.K Z' fun c _ => Ec c) →
    Room k (A.deeper (PySem.W.envX q l.scope s.heap.objs.size f (.ref c') (cloFrom cells l.scope.names []))) → (A.deeper (PySem.W.envX q l.scope s.heap.objs.size f (.ref c') (cloFrom cells l.scope.names []))).guards = some [] →
      PE (cloCx X.prog X.w X.K X.mg X.base N A outer s H E q l.scope f c' cells) l.body (liftX X.K Z' (wx Ec))
theorem clo_thk {l : LamC0 × List Int} {f : Nat} {k : Nat} {wx : (Str → Prop) → DX} (I : Inv X pins σL H s) (m : Made X.K F H cells sc N σ env) (r : MkRec q cells F H l f) (B : BodyM X T q sc N l.1 k wx) :
    ThkOk X.prog X.w X.K X.mg X.base T (k + 1) (frs X.stack) s F (hidC H cells) f fun Pr Er => wx Er (datOf env) fun r _ => Pr r := by
  obtain ⟨L, hbind, hbody⟩ := B
  obtain ⟨pm, c', ctv, hf, hco⟩ := r
  refine ⟨fun s1 F1 H1 hok e1 e2 un => ⟨_, _, _, _, (hok f _ (e2 _ _ (e1 _ _ hf))).1⟩, fun A outer s1 F1 H1 Q E Pr Er hr hA e0 un po hth hQ hE => ?_⟩
  have of1 : s1.heap.get? f = some (kla_obj "<lambda>" q l.1.params l.1.body l.1.scope (cloFrom cells l.1.scope.names []) pm c' ctv) := (e0.hok f _ (po.fh _ _ (po.ex _ _ hf))).1
  have hch : hidC H cells c' = some (LamX.CodeO c' q) := by rw [hid_no (code_nc m.cels I.hok hco)]; exact hco
  have hc1 : H1 c' = some (LamX.CodeO c' q) := (po.frame.stay c' _ hch fun i p xs z => by cases z).ext
  obtain ⟨⟨oc, vs, t, hoc, hdc, hvc⟩, _, _⟩ := e0.hok c' _ hc1
  have cellAt : ∀ x c, cells.lookup x = some c → ∀ w, H c = some (CelE c w) → H1 c = none ∧ s1.heap.IsCell c w := fun x c z w hw => by
    obtain ⟨⟨o, ho, hd⟩, _, _⟩ := I.hok c _ hw
    obtain ⟨sl, q⟩ := un.any ho (hid_cell z) (by simp)
    exact ⟨un.free c o ho (hid_cell z) (by simp), _, q, hd⟩
  refine kla_callFunE hr.depth of1 rfl L.co L.gen rfl ⟨c', oc, vs, t, rfl, hoc, hdc, hvc⟩ ?_
  rw [hbind]
  refine wpAny_pure (wpAny_newFunctionEnv (fun y hy => (L.own y hy).2) (fun y hy => absurd hy (by simp)) (fun h₁ hns hsb => ⟨(e0.mod.nolimit.keeps fun b o e => (e0.bs b o e).1).fresh _ hsb, ?_⟩) L.kind)
  show codeAny _ _ (.expr l.1.body (PySem.W.envX q l.1.scope s1.heap.objs.size f (.ref c') (cloFrom cells l.1.scope.names []))) _ _
  have kp : ∀ b o, s1.heap.get? b = some o → h₁.get? b = some o := fun b o e => hsb.extBut b o (Nat.ne_of_lt (Heap.lt_size e)) (Heap.get?_push_of_some _ e)
  have J : Inv (cloCx X.prog X.w X.K X.mg X.base N A outer s1 H1 E q l.1.scope f c' cells) [] σ H1 { s1 with heap := h₁, toks := s1.toks + ([] : List (Str × Value)).length } := clo_start m.inj m.has (fun x c z => by
      obtain ⟨w, hw⟩ := (m.cel x c z).2
      obtain ⟨a1, a2⟩ := cellAt x c z w hw
      exact ⟨a1, w, a2⟩) (fun x c i v z h1 h2 h3 => by
      obtain ⟨w, hw⟩ := (m.cel x c z).2
      obtain ⟨u, ru, rfl⟩ := m.val x c i v w z h1 h2 h3 hw
      exact ⟨u, ru, (cellAt x c z _ hw).2⟩) m.len L e0 hr.hd hns kp
  have tk : L2N.Takes (cloCx X.prog X.w X.K X.mg X.base N A outer s1 H1 E q l.1.scope f c' cells) (liftW X.K (entryZ T X.prog X.w F1 H1 [] []) fun c _ => Er c) := (L2N.takes_of rfl rfl rfl rfl).imp fun cls d σ2 H2 ⟨c, h1, h2, xc, g2, F2, env2, k2, h3⟩ => by
    subst h1 h2
    exact hE c F2 H2 h3 xc ⟨k2.oldF.1, k2.oldF.2, k2.fh, k2.newF, k2.frame.weak fun a o e _ i z => (by
      obtain ⟨p, xs, h1, h2⟩ := cellsAt_inv (vs := []) (as := []) (i := i) z
      cases h1), fun i p xs a h1 _ => (by cases h1), .non⟩
  refine kla_codeExpr (wpAny_mono ((hbody (Z' := entryZ T X.prog X.w F1 H1 [] []) cells f c' Er A outer s1 H1 E tk (hr.deeper _) hA).run [] _ σ H1 Q J ⟨entryG T X.prog X.w F1 H1 [] [], F1, datOf env, _, Ok.thunkM m po, hth, fun r env1 v F2 H2 p e1 k1 r1 => ?_⟩) (fun v s' hq => ?_) fun e s' hq => hq)
  · have z := post_of (n := 0) k1 (fun i p xs e => by cases e) r1
    exact hQ r v F2 H2 p z
  · obtain ⟨w', H', J', rv, q⟩ := hq
    exact ⟨w', H', J'.os, J'.bare, J'.base, J'.hok, rv, q⟩
/-- the calls by the functions' places -/
def tblP : List DTh → List Nat → List (Nat × DTh)
  | th :: ts, f :: fs => (f, th) :: tblP ts fs
  | _, _ => []
abbrev tblM (ws : List ((Str → Prop) → DX)) (fs : List Nat) (ce : List SD) : List (Nat × DTh) := tblP (ws.map fun wx => fun Pr Er => wx Er ce fun r _ => Pr r) fs
/-- all of them -/
inductive BodsM (X : Cx) (T : List (Addr × Str)) (q : Str) (sc : Scope) (N : List Str) (k : Nat) : List (LamC0 × List Int) → List ((Str → Prop) → DX) → Prop
  | nil : BodsM X T q sc N k [] []
  | cons {l : LamC0 × List Int} {ls : List (LamC0 × List Int)} {wx : (Str → Prop) → DX} {ws : List ((Str → Prop) → DX)} : BodyM X T q sc N l.1 k wx → BodsM X T q sc N k ls ws → BodsM X T q sc N k (l :: ls) (wx :: ws)
theorem bods_thk {k : Nat} (I : Inv X pins σL H s) (m : Made X.K F H cells sc N σ env) {LS : List (LamC0 × List Int)} {ws : List ((Str → Prop) → DX)} (B : BodsM X T q sc N k LS ws) : ∀ {fs : List Nat}, Paired (MkRec q cells F H) LS fs → ∀ f th, (f, th) ∈ tblM ws fs (datOf env) →
    ThkOk X.prog X.w X.K X.mg X.base T (k + 1) (frs X.stack) s F (hidC H cells) f th := by
  induction B with
  | nil =>
    intro fs hp f th hm
    cases hp
    cases hm
  | cons b _ ih =>
    intro fs hp f th hm
    cases hp with
    | cons r t =>
      rcases List.mem_cons.mp hm with e | hm
      · cases e
        exact clo_thk I m r b
      · exact ih t f th hm
end
open Classical in
noncomputable def resN (Z : Zx T) : Hp := fun a => if ∃ i, Z.A0 i = some a then none else Z.H0 a
structure ZMade (K : PySem.W.Frag) (Z : Zx T) (q : Str) (cells : List (Str × Addr)) (sc : Scope) (N : List Str) (σ : L2.St) (env : List SD) (LS : List (LamC0 × List Int)) (fs : List Nat) : Prop where
  made : Made K Z.F0 (resN Z) cells sc N σ env
  recs : Paired (MkRec q cells Z.F0 (resN Z)) LS fs
section
variable {K : PySem.W.Frag} {g : Gx Z} {F : Hp} {envL : List SD} {σL : L2.St} {H : Hp} {q : Str} {cells : List (Str × Addr)} {sc : Scope} {N : List Str} {σ : L2.St} {env : List SD} {LS : List (LamC0 × List Int)} {fs : List Nat}
theorem resN_of {a : Addr} {o : HO} (e : resN Z a = some o) : Z.H0 a = some o ∧ ∀ i, Z.A0 i ≠ some a := by
  unfold resN at e
  split at e
  · cases e
  · rename_i h
    exact ⟨e, fun i z => h ⟨i, z⟩⟩
theorem Ok.ext_of (k : Ok K g F envL σL H) {a : Addr} {φ : Heap → Prop} (e : resN Z a = some (.ext φ)) : H a = some (.ext φ) := (k.frame.stay a _ (resN_of e).1 (resN_of e).2).ext
theorem Ok.made (k : Ok K g F envL σL H) (z : ZMade K Z q cells sc N σ env LS fs) : Made K F H cells sc N σ env ∧ Paired (MkRec q cells F H) LS fs := by
  refine ⟨z.made.mono k.oldF.1 (fun x c e => ?_) fun a φ e => k.ext_of e, Paired.mapP z.recs fun a b r => r.monoE k.oldF.1 fun a φ e => k.ext_of e⟩
  obtain ⟨h1, w, h2⟩ := z.made.cel x c e
  cases y : F c with
  | none => rfl
  | some o =>
    rcases k.newF c o y with z | z
    · rw [show g.F0 c = Z.F0 c from rfl, h1] at z
      cases z
    · rw [show g.H0 c = Z.H0 c from rfl, (resN_of h2).1] at z
      cases z
/-- the same, seen from here on -/
def extOf (x y : Option HO) : Option HO := match x with
  | some (.ext φ) => some (.ext φ)
  | _ => y
theorem extOf_cases (x y : Option HO) : (∃ φ, x = some (.ext φ) ∧ extOf x y = some (.ext φ)) ∨ ((∀ φ, x ≠ some (.ext φ)) ∧ extOf x y = y) := by
  cases x with
  | none => exact .inr ⟨fun φ e => (by cases e), rfl⟩
  | some o => cases o <;> first | exact .inl ⟨_, rfl, rfl⟩ | exact .inr ⟨fun φ e => (by cases e), rfl⟩
noncomputable def rebZ (Z : Zx T) (F H : Hp) : Zx T := { Z with F0 := F, H0 := fun a => extOf (H a) (Z.H0 a) }
noncomputable def rebG (g : Gx Z) (F H : Hp) : Gx (rebZ Z F H) := ⟨g.Pr, g.px, g.pl⟩
theorem rebZ_ext {F : Hp} {a : Addr} {φ : Heap → Prop} (e : H a = some (.ext φ)) : (rebZ Z F H).H0 a = some (.ext φ) := by
  show extOf (H a) (Z.H0 a) = _
  rw [e]
  rfl
theorem rebZ_cases (Z : Zx T) (F H : Hp) (a : Addr) : (∃ φ, H a = some (.ext φ) ∧ (rebZ Z F H).H0 a = some (.ext φ)) ∨ ((∀ φ, H a ≠ some (.ext φ)) ∧ (rebZ Z F H).H0 a = Z.H0 a) := extOf_cases (H a) (Z.H0 a)
theorem rebZ_none {F H : Hp} {a : Addr} (e : (rebZ Z F H).H0 a = none) : Z.H0 a = none := by
  rcases rebZ_cases Z F H a with ⟨φ, _, h⟩ | ⟨_, h⟩
  · rw [h] at e
    cases e
  · rw [h] at e
    exact e
theorem Ok.rebase (k : Ok K g F envL σL H) (nd : ∀ (i : Nat) (w : Own), envL[i]? ≠ some (.dic w)) : Ok K (rebG g F H) F envL σL H where
  len := k.len
  fh := k.fh
  dat := k.dat
  cel := fun i p xs e => by
    obtain ⟨a, vs, h1, h2, h3, h4, h5, h6⟩ := k.cel i p xs e
    refine ⟨a, vs, h1, h2, h3, h4, h5, fun hp => ?_⟩
    rcases rebZ_cases Z F H a with ⟨φ, z, _⟩ | ⟨_, z⟩
    · rw [h3] at z
      cases z
    · exact z.trans (h6 hp)
  sep := k.sep
  pin := k.pin
  frame := ⟨fun a o e n => by
    rcases rebZ_cases Z F H a with ⟨φ, z, y⟩ | ⟨_, z⟩
    · have e : (rebZ Z F H).H0 a = some o := e
      rw [y] at e
      cases e
      exact .inl z
    · have e : (rebZ Z F H).H0 a = some o := e
      rw [z] at e
      exact k.frame.stay a o e n, k.frame.tab⟩
  newF := fun a o e => .inl e
  oldF := ⟨Ex.refl F, k.oldF.2⟩
  prot := k.prot
  dic := DicsOk.none nd
theorem Ok.unbase (k : Ok K g F envL σL H) {F' : Hp} {env' : List SD} {σ' : L2.St} {H' : Hp} (k' : Ok K (rebG g F H) F' env' σ' H') : Ok K g F' env' σ' H' where
  len := k'.len
  fh := k'.fh
  dat := k'.dat
  cel := fun i p xs e => by
    obtain ⟨a, vs, h1, h2, h3, h4, h5, h6⟩ := k'.cel i p xs e
    exact ⟨a, vs, h1, h2, h3, h4, h5, fun hp => rebZ_none (h6 hp)⟩
  sep := k'.sep
  pin := k'.pin
  frame := ⟨fun a o e n => by
    rcases rebZ_cases Z F H a with ⟨φ, z, y⟩ | ⟨_, z⟩
    · have h1 := k.frame.stay a o e n
      rw [z] at h1
      have h2 := (k'.frame.stay a _ y n).ext
      rw [h2]
      exact h1
    · exact k'.frame.stay a o (z.trans e) n, k'.frame.tab⟩
  newF := fun a o e => by
    rcases k'.newF a o e with z | z
    · exact k.newF a o z
    · exact .inr (rebZ_none z)
  oldF := ⟨fun a o e => k'.oldF.1 a o (k.oldF.1 a o e), k'.oldF.2⟩
  prot := k'.prot
  dic := DicsOk.castZ (Z := rebZ Z F H) (g := rebG g F H) (g2 := g) rfl rfl rfl (fun x z => rebZ_none z) (fun x z => z) k'.dic
theorem ResOk.unbase {F' : Hp} {env' : List SD} {σ' : L2.St} {H' : Hp} {v : V} {r : SD} (h : ResOk K (rebG g F H) F' env' σ' H' v r) : ResOk K g F' env' σ' H' v r := by
  cases r with
  | un => exact h
  | dat d => exact h
  | dic w => exact h
  | cel b xs =>
    obtain ⟨a, us, h1, h2, h3, h4, h5, h6⟩ := h
    exact ⟨a, us, h1, h2, h3, h4, rebZ_none h5, h6⟩
theorem Made.rebase (k : Ok K g F envL σL H) (m : Made K F H cells sc N σ env) (r : Paired (MkRec q cells F H) LS fs) : ZMade K (rebZ Z F H) q cells sc N σ env LS fs := by
  have up : ∀ a φ, H a = some (.ext φ) → resN (rebZ Z F H) a = some (.ext φ) := fun a φ e => by
    unfold resN
    rw [if_neg]
    · exact rebZ_ext e
    · rintro ⟨i, z⟩
      obtain ⟨xs, hx⟩ := k.pin i a z
      obtain ⟨b, vs, _, _, h3, _, h5, _⟩ := k.cel i true xs hx
      have h5 := h5 rfl
      rw [show g.A0 i = some a from z] at h5
      cases h5
      rw [h3] at e
      cases e
  exact ⟨m.mono (Ex.refl F) (fun x c e => (m.cel x c e).1) up, Paired.mapP r fun a b z => z.monoE (Ex.refl F) up⟩
end
end DL

namespace DL
variable {T : List (PySem.Addr × PySem.Str)} {Z : Zx T}
open PySem PySem.Spec PyProof.Rows L2 PySem.W
open Evl (Ex)
theorem DR.inv_pl {K : PySem.W.Frag} {F : Hp} {v : V} {z : Int} (h : DR K F v (.dict [(.none, .int z)])) : ∃ a : Addr, v = .ref a ∧ z = (a : Nat) := by
  cases h with
  | dct _ m => cases m
  | opq h x =>
    rcases x with x | ⟨f, x, _⟩
    · cases x
      exact ⟨_, rfl, rfl⟩
    · cases x
theorem Ok.freezeX {K : PySem.W.Frag} {g : Gx Z} {F : Hp} {env : List SD} {σ : L2.St} {H : Hp} (k : Ok K g F env σ H) {v : V} {p : Bool} {xs : List PyData} (h : ResOk K g F env σ H v (.cel p xs)) : ∃ (a : Addr) (vs : List V), v = .ref a ∧ F a = none ∧ H a = some (.lst vs) ∧ DRs K F vs xs ∧ Ok K g (upd F a (.lst vs)) env σ H := by
  obtain ⟨a, vs, rfl, hF, hH, r, h0, hpr, nw⟩ := h
  have ex : Ex F (upd F a (.lst vs)) := Ex.new hF
  refine ⟨a, vs, rfl, hF, hH, r, ⟨k.len, fun b u q => ?_, fun i d e => ?_, fun i q ys e => ?_, k.sep, k.pin, k.frame, fun b u q => ?_, k.oldF.new hF (fun _ z => by cases z), fun b u e => ?_, (k.dic.keep ex (fun _ _ _ z => z) fun b ys e n => ⟨by rw [upd_ne fun z => by rw [z, hH] at e; cases e]; exact n, rfl⟩)⟩⟩
  · by_cases z : b = a
    · subst z
      rw [upd_same] at q
      exact hH.trans q
    · rw [upd_ne z] at q
      exact k.fh b u q
  · obtain ⟨v, z1, z2⟩ := k.dat i d e
    exact ⟨v, z1, z2.mono ex⟩
  · obtain ⟨b, ws, z1, z2, z3, z4, z5⟩ := k.cel i q ys e
    have ne : b ≠ a := fun z => by
      subst z
      exact nw i q ys e z1
    exact ⟨b, ws, z1, by rw [upd_ne ne]; exact z2, z3, z4.mono ex, z5⟩
  · by_cases z : b = a
    · subst z
      exact .inr h0
    · rw [upd_ne z] at q
      exact k.newF b u q
  · obtain ⟨z1, z2, z3⟩ := k.prot b u e
    have ne : b ≠ a := fun z => by
      subst z
      rw [hpr] at e
      cases e
    exact ⟨z1, by rw [upd_ne ne]; exact z2, z3⟩
/-- the lambdas that a body tells -/
def intsE : List Expr → List Int
  | .Constant (.int i) _ _ :: r => i :: intsE r
  | _ => []
def lamP : Expr → Option (LamC0 × List Int)
  | .Tuple [.Lambda p b s _, .Tuple es _ _] _ _ => some (⟨p, b, s⟩, intsE es)
  | _ => none
def lamsS : List Stmt → List (LamC0 × List Int)
  | .Assign [.Name _ _] (.List [it] _) _ :: r => (match lamP it with
    | some l => l :: lamsS r
    | none => lamsS r)
  | .Expr (.Call (.Attribute _ _ _) [it] [] _) _ :: r => (match lamP it with
    | some l => l :: lamsS r
    | none => lamsS r)
  | _ :: r => lamsS r
  | [] => []
section
variable {X : Cx} {q : Str} {cells : List (Str × Addr)} {sc : Scope} {N : List Str} {σ : L2.St} {ce : List SD} {LS : List (LamC0 × List Int)} {fs : List Nat} {ws : List ((Str → Prop) → DX)}
def callT (tbl : List (Nat × DTh)) (d : PyData) (K : DTh → Prop) : Prop := match d with
  | .dict [(.none, .int z)] => ∃ (f : Nat) (th : DTh), z = (f : Nat) ∧ (f, th) ∈ tbl ∧ K th
  | _ => False
theorem callT_inv {tbl : List (Nat × DTh)} {d : PyData} {K : DTh → Prop} (h : callT tbl d K) : ∃ (f : Nat) (th : DTh), d = plD f ∧ (f, th) ∈ tbl ∧ K th := by
  unfold callT at h
  split at h
  · obtain ⟨f, th, rfl, h1, h2⟩ := h
    exact ⟨f, th, rfl, h1, h2⟩
  · exact h.elim
abbrev dThkC (i : Nat) (tbl : List (Nat × DTh)) (S : DSpT) (env : List SD) (P : SD → List SD → Prop) : Prop := match env[i]? with
  | some (.dat d) => callT tbl d fun th => S th fun r => P r env
  | _ => False
theorem dcnCl {x y a : Str} {k j : Nat} {S : DSpT} {p p0 pos : Pos} (i : Nat) (D : DnT X.prog X.w X.K X.mg X.base T x k (j + 1) a S) (hr : Room k X.A) (hA : X.A.guards = some []) (hZ : ZMade X.K Z q cells sc N σ ce LS fs) (B : BodsM X T q sc N j LS ws) {tbl : List (Nat × DTh)} (ht : tbl = tblM ws fs (datOf ce))
    (hN : X.N[i]? = some y := by rfl) (hv : Vis X.env.scope y := by first | exact Or.inl rfl | exact Or.inr (Or.inl rfl) | exact Or.inr (Or.inr rfl)) (hd : (y == ("__debug__" : Str)) = false := by decide)
    (hcd : (y == ("__classdict__" : Str)) = false := by decide) (hg : Gl X x := by rfl) (hdb : (x == ("__debug__" : Str)) = false := by decide)
    (he : starEach [.Name y p0] X.env = (false, eval (.Name y p0) X.env) :: starEach [] X.env := by rfl) (hpl : (backTo pos (starEach [] X.env)).any (·.1) = false := by rfl) :
    PE X (.Call (.Name x p) [.Name y p0] [] pos) (liftX X.K Z (dThkC i tbl S)) := ⟨fun pins s σL H Q I ⟨g, F, env, P, k0, w, q1⟩ => by
  obtain ⟨fd, G, hb⟩ := D.ex
  subst ht
  unfold dThkC at w
  split at w
  · rename_i z ez
    obtain ⟨f, th, rfl, hm, w⟩ := callT_inv w
    obtain ⟨v, hv1, r1⟩ := k0.dat i _ ez
    obtain ⟨u, rfl, eu⟩ := r1.inv_pl
    obtain rfl : f = u := by exact_mod_cast eu
    obtain ⟨md, rc⟩ := k0.made hZ
    refine wpAny_Call_Name_kw (ld_glob I hg D.glo ?_ hdb)
    refine PySem.W.callWith_K (h₀ := X.base) I.ok.mod.kin D.kp ?_ he hpl
    show wpAny _ _ (spliced ((false, eval (.Name y p0) X.env) :: backTo pos (starEach [] X.env))) _ _ s
    refine Calls.spliced_cons (thn ((pe_var (pos := p0) hN hv hd hcd).run pins s σL H (fun v H1 => v = .ref f ∧ H1 = H) I ⟨.ref f, hv1, rfl, rfl⟩) fun y' s1 ⟨v, H1, I1, rv, qq⟩ => ?_)
    obtain ⟨ev, eH⟩ := qq
    subst ev
    rw [eH] at I1
    obtain rfl : y' = Value.ref f := rv
    refine Calls.spliced_nil ⟨I1.kIn, ?_⟩
    have th1 := bods_thk I1 md B rc f th hm
    have C := md.cels
    have hbb := hb s1 [.ref f] I1.kIn rfl
    rw [List.append_nil] at hbb
    have nF : ∀ a o, F a = some o → hidC H cells a = some o := fun a o e => by
      rw [hid_no fun ⟨x, z⟩ => by rw [(md.cel x a z).1] at e; cases e]
      exact k0.fh a o e
    refine wpAny_call (codeAny_mono (G.go X.A X.stack s1 (hidC H cells) ⟨[.ref f], []⟩ f th (fun v H2 => ∃ (r : SD) (F' : Hp), P r env ∧ PostOk T X.K F (hidC H cells) [] [] F' H2 [] v r) F (fun r => P r env) hr hA (hid_env C I1.env0) hbb
      (args_dat nF (hid_tabs C I1.hok k0.frame.tab) k0.oldF.2 .nil) th1 w fun r v F' H' p po => ⟨r, F', p, po⟩) fun res s2 hq => ?_)
    match res, hq with
    | .error e, hq => exact hq.elim
    | .ok (.ret u), hq =>
      refine I1.after (unh_ce I1.stkFree C I1.hok hq fun v H2 un ⟨r, F', p, po⟩ => ?_)
      have po2 := unh_post C I1.hok un po
      obtain ⟨k2, r2⟩ := k0.after (vs := []) (as := []) (fun i p xs z => by cases z) po2
      exact q1 r env v F' _ p po2.ex k2 r2
    | .ok .next, hq => exact hq.elim
    | .ok .brk, hq => exact hq.elim
    | .ok .cont, hq => exact hq.elim
  · exact w.elim⟩
def itmsP : List (List Int) → List Nat → List PyData
  | l :: ls, f :: fs => .tuple [plD f, .tuple (l.map .int)] :: itmsP ls fs
  | _, _ => []
theorem itms_p : ∀ (LS : List (LamC0 × List Int)) (fs : List Nat), itmsM LS fs = itmsP (LS.map (·.2)) fs
  | [], _ => rfl
  | _ :: _, [] => rfl
  | _ :: ls, _ :: fs => congrArg (_ :: ·) (itms_p ls fs)
def liftIM (K : PySem.W.Frag) (Z : Zx T) (q : Str) (sc : Scope) (N : List Str) (LS : List (LamC0 × List Int)) (S : DSpM) (was : DA) : TI := fun σL H R => ∃ (g : Gx Z) (F : Hp) (env : List SD) (P : List SD → List SD → Prop), Ok K g F env σL H ∧ was env (fun ds env1 => S (ds.map .dat) fun ce => P ce env1) ∧
  ∀ (ce env1 : List SD) (fs : List Nat) (cells : List (Str × Addr)) (σ : L2.St) (J : It) (F' H' : Hp), P ce env1 → Ex F F' → Ok K g F' env1 σL H' → WalkD K true F' J (itmsM LS fs) → Made K F' H' cells sc N σ ce → Paired (MkRec q cells F' H') LS fs → R J H'
variable {x : Str} {k : Nat} {ps : List Str} {S : DSpM} {e : Expr} {es : List Expr} {was : DA} {p pos : Pos}
theorem dcnM1 {tg : Expr} (D : DnM X.prog X.w X.K X.mg X.base T x k ps q sc N LS S) (hr : Room k X.A) (hA : X.A.guards = some []) (ha : PA X (e :: es) (liftA X.K Z was)) (hg : Gl X x := by rfl) (hdb : (x == ("__debug__" : Str)) = false := by decide)
    (he : starEach (e :: es) X.env = (false, eval e X.env) :: starEach es X.env := by rfl) (hpl : (backTo pos (starEach es X.env)).any (·.1) = false := by rfl) : PI X tg (.Call (.Name x p) (e :: es) [] pos) (liftIM X.K Z q sc N LS S was) := by
  obtain ⟨fd, G, hb⟩ := D.ex
  have hE : PE X (.Call (.Name x p) (e :: es) [] pos) (fun σL H Q => ∃ (g : Gx Z) (F : Hp) (env : List SD) (P : List SD → List SD → Prop), Ok X.K g F env σL H ∧ was env (fun ds env1 => S (ds.map .dat) fun ce => P ce env1) ∧
      ∀ (ce env1 : List SD) (fs : List Nat) (cells : List (Str × Addr)) (σ : L2.St) (v : V) (F' H' : Hp), P ce env1 → Ex F F' → Ok X.K g F' env1 σL H' → ResOk X.K g F' env1 σL H' v (.cel false (itmsM LS fs)) → Made X.K F' H' cells sc N σ ce → Paired (MkRec q cells F' H') LS fs → Q v H') := by
    refine ⟨fun pins s σL H Q I ⟨g, F, env, P, k0, w, q1⟩ => wpAny_Call_Name_kw (ld_glob I hg D.glo (PySem.W.callWith_K (h₀ := X.base) I.ok.mod.kin D.kp (thn (ha.run pos pins s σL H (fun vs H1 => ∃ (F1 : Hp) (ds : List PyData) (env1 : List SD), Ex F F1 ∧ Ok X.K g F1 env1 σL H1 ∧ DRs X.K F1 vs ds ∧ S (ds.map .dat) fun ce => P ce env1) I ?_) fun us s1 ⟨vs, H1, I1, rv, F1, ds, env1, e1, k1, r1, w1⟩ => ⟨I1.kIn, ?_⟩) he hpl) hdb)⟩
    · exact ⟨g, F, env, _, k0, w, fun ds env1 vs F1 H1 p1 e1 k1 r1 => ⟨F1, ds, env1, e1, k1, r1, p1⟩⟩
    · have hl : (us ++ ([] : List Value)).length = ps.length := by
        have := G.len _ _ w1
        rw [List.length_map] at this
        rw [List.append_nil, ← rv.length, r1.length, this]
      have hbb := hb s1 us I1.kIn hl
      rw [List.append_nil] at hbb
      refine wpAny_call (codeAny_mono (G.go X.A X.stack s1 H1 ⟨us, []⟩ us vs Q hr hA I1.env0 hbb rv ⟨F1, ds.map .dat, _, args_dat k1.fh k1.frame.tab k1.oldF.2 r1, w1, fun ce fs cells σ v F' H' as' p po md rc => ?_⟩) fun res s' hq => ?_)
      · obtain ⟨k2, r2⟩ := k1.after no_cel po
        exact q1 ce env1 fs cells σ v F' H' p (e1.trans po.ex) k2 r2 md rc
      · match res, hq with
        | .error e, hq => exact hq.elim
        | .ok (.ret u), hq => exact I1.after hq
        | .ok .next, hq => exact hq.elim
        | .ok .brk, hq => exact hq.elim
        | .ok .cont, hq => exact hq.elim
  exact PI.of (pi_seq hE) fun σL H R ⟨g, F, env, P, k, w, q1⟩ => ⟨g, F, env, P, k, w, fun ce env1 fs cells σ v F1 H1 p e1 k1 r1 md rc => by
    obtain ⟨a, vs, rfl, hF, hH, r, k2⟩ := k1.freezeX r1
    have e2 : Ex F1 (upd F1 a (.lst vs)) := Ex.new hF
    refine .inl ⟨a, rfl, .inl ⟨vs, SqL.of hH, q1 ce env1 fs cells σ _ _ H1 p (e1.trans e2) k2 (walkD_list (RdL.of upd_same) (r.mono e2)) (md.mono e2 (fun x c z => ?_) fun _ _ z => z) (Paired.mapP rc fun a b z => z.monoE e2 fun _ _ z => z)⟩⟩
    obtain ⟨z1, w1, z2⟩ := md.cel x c z
    rw [upd_ne fun y => by rw [y, hH] at z2; cases z2]
    exact z1⟩
/-- no thing of one's own -/
def noDic (env : List SD) : Bool := env.all fun
  | .dic _ => false
  | _ => true
theorem noDic_of {env : List SD} (h : noDic env = true) : ∀ (i : Nat) (w : Own), env[i]? ≠ some (.dic w) := fun i w e => by
  have := List.all_eq_true.mp h _ (List.mem_of_getElem? e)
  cases this
def exG (T : List (Addr × Str)) (K : PySem.W.Frag) (t : DG) : TG := fun v σL H Q => ∃ Z' : Zx T, liftG K Z' true t v σL H Q
def exB (T : List (Addr × Str)) (K : PySem.W.Frag) (m : Nat) (q : Str) (sc : Scope) (N : List Str) (LS : List (LamC0 × List Int)) (ws : List ((Str → Prop) → DX)) (wb : List (Nat × DTh) → DS) : TS := fun D σL H => ∃ (Z' : Zx T) (cells : List (Str × Addr)) (σ : L2.St) (ce : List SD) (fs : List Nat),
  ZMade K Z' q cells sc N σ ce LS fs ∧ liftS K Z' m (wb (tblM ws fs (datOf ce))) D σL H
abbrev dForM {κ I S' : Type} (is : List Nat) (dec : List SD → Option (I × S')) (emb : I → S' → List SD) (kk : RT → κ) (qb : κ → List (Nat × DTh) → PyData → I → S' → (I → S' → Prop) → (I → S' → Prop) → Prop) (pls : List (List Int)) (ws : List ((Str → Prop) → DX)) (S : DSpM) (was : DA) (E : DEnds) (env : List SD) : Prop :=
  was env fun ds env1 => S (ds.map .dat) fun ce => bIf (noDic env1) (∀ fs : List Nat, fs.length = pls.length → decP is dec (fun i s => qFor (qb (kk E.rt) (tblM ws fs (datOf ce))) i (itmsP pls fs) s fun s => E.nx (emb i s)) env1) False
theorem sforM {κ I S' : Type} {m : Nat} {tg : Expr} {body : List Stmt} {t : DG} {wb : List (Nat × DTh) → DS} {j : Nat} (is : List Nat) (dec : List SD → Option (I × S')) (emb : I → S' → List SD) (kk : RT → κ) (qb : κ → List (Nat × DTh) → PyData → I → S' → (I → S' → Prop) → (I → S' → Prop) → Prop)
    (hde : ∀ env i s, dec env = some (i, s) → env = emb i s) (pls : List (List Int)) (hp : PassesOwn (model X.prog X.w) X.A X.env X.xe) (hc : X.calm = true)
    (D : DnM X.prog X.w X.K X.mg X.base T x k ps q sc N LS S) (hr : Room k X.A) (hA : X.A.guards = some []) (B : BodsM X T q sc N j LS ws) (ha : PA X (e :: es) (liftA X.K Z was))
    (hg : ∀ {Z' : Zx T}, PG X tg (liftG X.K Z' true t)) (hb : ∀ {Z' : Zx T} {cells : List (Str × Addr)} {σ : L2.St} {ce : List SD} {fs : List Nat}, ZMade X.K Z' q cells sc N σ ce LS fs → BodsM X T q sc N j LS ws → ∀ tbl : List (Nat × DTh), tbl = tblM ws fs (datOf ce) → PSs X body (liftS X.K Z' m (wb tbl)))
    (hq : ∀ (R : RT) (tbl : List (Nat × DTh)) (d : PyData) (i : I) (s : S') (nx bk : I → S' → Prop), qb (kk R) tbl d i s nx bk → t d (emb i s) fun env1 => wb tbl { nx := decP is dec nx, ct := decP is dec nx, bk := decP is dec bk, rt := R } env1)
    (hpls : LS.map (·.2) = pls := by rfl) (hgl : Gl X x := by rfl) (hdb : (x == ("__debug__" : Str)) = false := by decide)
    (he : starEach (e :: es) X.env = (false, eval e X.env) :: starEach es X.env := by rfl) (hpl : (backTo pos (starEach es X.env)).any (·.1) = false := by rfl)
    (hs : ∀ y, foldedSetIterable (.Call (.Name x p) (e :: es) [] pos) X.env y = pure y := by intro _; rfl) {fpos : Pos} :
    PS X (.For tg (.Call (.Name x p) (e :: es) [] pos) body [] fpos) (liftS X.K Z m (dForM is dec emb kk qb pls ws S was)) := by
  subst hpls
  have hgE : PG X tg (exG T X.K t) := ⟨fun pins s σL H v u Q I r ⟨Z', h⟩ => (hg (Z' := Z')).run pins s σL H v u Q I r h⟩
  have hbE : PSs X body (exB T X.K m q sc N LS ws wb) :=
    ⟨fun pins s σL H D I ⟨Z', cells, σ, ce, fs, z, h⟩ => (hb z B _ rfl).run pins s σL H D I h⟩
  refine PS.of (ps_for hp hc (dcnM1 D hr hA ha hgl hdb he hpl) hgE hbE hs) fun D σL H ⟨g, F, env, P, k, w0, q0⟩ => ⟨g, F, env, fun ce env1 => bIf (noDic env1) (∀ fs : List Nat, fs.length = (LS.map (·.2)).length → decP is dec (fun i s => qFor (qb (kk P.rt) (tblM ws fs (datOf ce))) i (itmsP (LS.map (·.2)) fs) s fun s => P.nx (emb i s)) env1) False, k, w0, fun ce env1 fs cells σ J F1 H1 p e1 k1 wd md rc => ?_⟩
  obtain ⟨nd, p⟩ := bIf_and p
  have p := p fs (by rw [List.length_map]; exact (paired_len rc).symm)
  rw [← itms_p] at p
  have zm := md.rebase k1 rc
  have kr := k1.rebase (noDic_of nd)
  obtain ⟨G, Y, wk, hG, hY⟩ := wd
  have q0 := q0.ex e1
  obtain ⟨i0, s0, d0, p⟩ := decP_inv p
  have fin : ∀ {env' : List SD} {σ' : L2.St} {F' H' : Hp}, decP is dec (same i0 fun s => P.nx (emb i0 s)) env' → Ex F1 F' → Ok X.K (rebG g F1 H1) F' env' σ' H' → D.nx σ' H' := fun {env' σ' F' H'} p e k => by
    obtain ⟨i, s, d, rfl, p⟩ := decP_inv p
    have k2 := k.unS (is := is)
    rw [hde _ _ _ d] at k2
    exact q0.nx _ _ _ _ p e (k1.unbase k2)
  refine for_it (g := exG T X.K t) (tb := exB T X.K m q sc N LS ws wb) (D := D) wk (fun j σ' H' => ∃ env' F', Ex F1 F' ∧ Ok X.K (rebG g F1 H1) F' env' σ' H' ∧ decP is dec (same i0 fun s => qFor (qb (kk P.rt) (tblM ws fs (datOf ce))) i0 ((itmsM LS fs).drop j) s fun s => P.nx (emb i0 s)) env') ⟨env1, F1, Ex.refl F1, kr, by unfold decP; rw [d0]; exact ⟨rfl, p⟩⟩ (fun i σ' H' _ ⟨env', F', e2, k2, _⟩ => hG H' (e2.trans k2.fh)) (fun j x σ' H' H2 hj ⟨env', F', e2, k2, w2⟩ y => ?_) fun σ' H' ⟨env', F', e2, k2, w2⟩ => ?_
  · obtain ⟨i, s, de, rfl, w3⟩ := decP_inv w2
    have k2 := k2.unS (is := is)
    rw [hde _ _ _ de] at k2
    have hd : (itmsM LS fs).drop j = (itmsM LS fs)[j] :: (itmsM LS fs).drop (j + 1) := List.drop_eq_getElem_cons hj
    rw [hd] at w3
    obtain ⟨F3, e3, k3, r3⟩ := k2.yld e2 (hY j H' x H2 (itmsM LS fs)[j] (e2.trans k2.fh) (by simp [hj]) y)
    have e13 := e2.trans e3
    refine ⟨rebZ Z F1 H1, rebG g F1 H1, F3, _, _, _, k3, r3, hq P.rt _ _ i s _ _ w3, fun env4 σ4 F4 H4 p4 e4 k4 => ⟨rebZ Z F1 H1, cells, σ, ce, fs, zm, rebG g F1 H1, F4, env4, _, k4, p4, ?_⟩⟩
    have e14 := e13.trans e4
    exact .mk4 (.mk (fun env5 σ5 F5 H5 p5 e5 k5 => ⟨env5, F5, e14.trans e5, k5, p5⟩) (fun env5 σ5 F5 H5 p5 e5 k5 => fin p5 (e14.trans e5) k5) (fun env5 σ5 F5 H5 p5 e5 k5 => ⟨env5, F5, e14.trans e5, k5, p5⟩) (fun r env5 v σ5 F5 H5 p5 e5 k5 r5 => q0.rt r env5 v σ5 F5 H5 p5 (e14.trans e5) (k1.unbase k5) r5.unbase)) rfl
  · rw [List.drop_length] at w2
    exact fin w2 e2 k2
end
end DL

namespace K07
open PySem PySem.Spec PyProof.Rows L2 DL
abbrev Tp (K : PySem.W.Frag) (mg : Str → Option Value) : Prop := TopX fa fn fx K mg
section
variable {K : PySem.W.Frag} {mg : Str → Option Value}
theorem m_isinstance (T : Tp K mg) : mg "isinstance" = none := T.free "isinstance" 0
theorem m_int (T : Tp K mg) : mg "int" = none := T.free "int" 1
theorem m_bool (T : Tp K mg) : mg "bool" = none := T.free "bool" 2
theorem m_tuple (T : Tp K mg) : mg "tuple" = none := T.free "tuple" 3
theorem m_len (T : Tp K mg) : mg "len" = none := T.free "len" 4
theorem m_all (T : Tp K mg) : mg "all" = none := T.free "all" 5
theorem m_max (T : Tp K mg) : mg "max" = none := T.free "max" 6
theorem m_range (T : Tp K mg) : mg "range" = none := T.free "range" 7
theorem m_sum (T : Tp K mg) : mg "sum" = none := T.free "sum" 8
theorem m_enumerate (T : Tp K mg) : mg "enumerate" = none := T.free "enumerate" 9
theorem m_abs (T : Tp K mg) : mg "abs" = none := T.free "abs" 10
theorem m_ValueError (T : Tp K mg) : mg "ValueError" = none := T.free "ValueError" 11
theorem m_min (T : Tp K mg) : mg "min" = none := T.free "min" 12
theorem c_MOST_PARTS (T : Tp K mg) : ∃ t, mg "MOST_PARTS" = some (.int 60 t) := T.int "MOST_PARTS" 60 13
theorem c_MOST_WEIGHT (T : Tp K mg) : ∃ t, mg "MOST_WEIGHT" = some (.int 1000000 t) := T.int "MOST_WEIGHT" 1000000 14
theorem ce_NoWeights (T : Tp K mg) : CtE K mg "NoWeights" := T.exc "NoWeights" 0
theorem ce_NoNumber (T : Tp K mg) : CtE K mg "NoNumber" := T.exc "NoNumber" 1
theorem ce_NoPart (T : Tp K mg) : CtE K mg "NoPart" := T.exc "NoPart" 2
theorem gl_NoWeights (T : Tp K mg) : mg "NoWeights" = some (.ref (He.ga K "NoWeights")) := T.glo "NoWeights" 43
theorem gl_NoPart (T : Tp K mg) : mg "NoPart" = some (.ref (He.ga K "NoPart")) := T.glo "NoPart" 44
theorem gl_NoNumber (T : Tp K mg) : mg "NoNumber" = some (.ref (He.ga K "NoNumber")) := T.glo "NoNumber" 45
theorem gl_NoLog (T : Tp K mg) : mg "NoLog" = some (.ref (He.ga K "NoLog")) := T.glo "NoLog" 46
theorem gl_NoChase (T : Tp K mg) : mg "NoChase" = some (.ref (He.ga K "NoChase")) := T.glo "NoChase" 47
theorem gl_NoMiles (T : Tp K mg) : mg "NoMiles" = some (.ref (He.ga K "NoMiles")) := T.glo "NoMiles" 48
theorem gl_NoLogs (T : Tp K mg) : mg "NoLogs" = some (.ref (He.ga K "NoLogs")) := T.glo "NoLogs" 49
theorem gl_NoTable (T : Tp K mg) : mg "NoTable" = some (.ref (He.ga K "NoTable")) := T.glo "NoTable" 50
theorem gl_NoSights (T : Tp K mg) : mg "NoSights" = some (.ref (He.ga K "NoSights")) := T.glo "NoSights" 51
theorem gl_NoSet (T : Tp K mg) : mg "NoSet" = some (.ref (He.ga K "NoSet")) := T.glo "NoSet" 52
theorem gl_NoRoll (T : Tp K mg) : mg "NoRoll" = some (.ref (He.ga K "NoRoll")) := T.glo "NoRoll" 53
theorem gl_NoName (T : Tp K mg) : mg "NoName" = some (.ref (He.ga K "NoName")) := T.glo "NoName" 54
theorem gl_NoHour (T : Tp K mg) : mg "NoHour" = some (.ref (He.ga K "NoHour")) := T.glo "NoHour" 55
theorem gl_NoScheme (T : Tp K mg) : mg "NoScheme" = some (.ref (He.ga K "NoScheme")) := T.glo "NoScheme" 56
theorem gl_NoCrew (T : Tp K mg) : mg "NoCrew" = some (.ref (He.ga K "NoCrew")) := T.glo "NoCrew" 57
theorem gl_NoMan (T : Tp K mg) : mg "NoMan" = some (.ref (He.ga K "NoMan")) := T.glo "NoMan" 58
theorem gl_NoSale (T : Tp K mg) : mg "NoSale" = some (.ref (He.ga K "NoSale")) := T.glo "NoSale" 59
theorem gl_NoCrews (T : Tp K mg) : mg "NoCrews" = some (.ref (He.ga K "NoCrews")) := T.glo "NoCrews" 60
theorem gl_NoPages (T : Tp K mg) : mg "NoPages" = some (.ref (He.ga K "NoPages")) := T.glo "NoPages" 61
theorem gl_NoPage (T : Tp K mg) : mg "NoPage" = some (.ref (He.ga K "NoPage")) := T.glo "NoPage" 62
theorem gl_NoPrize (T : Tp K mg) : mg "NoPrize" = some (.ref (He.ga K "NoPrize")) := T.glo "NoPrize" 63
theorem gl_NoBalances (T : Tp K mg) : mg "NoBalances" = some (.ref (He.ga K "NoBalances")) := T.glo "NoBalances" 64
theorem gl_NoMoney (T : Tp K mg) : mg "NoMoney" = some (.ref (He.ga K "NoMoney")) := T.glo "NoMoney" 65
theorem gl_NoChange (T : Tp K mg) : mg "NoChange" = some (.ref (He.ga K "NoChange")) := T.glo "NoChange" 66
theorem gl_NoText (T : Tp K mg) : mg "NoText" = some (.ref (He.ga K "NoText")) := T.glo "NoText" 67
theorem gl_NoRow (T : Tp K mg) : mg "NoRow" = some (.ref (He.ga K "NoRow")) := T.glo "NoRow" 68
theorem gl_TooMany (T : Tp K mg) : mg "TooMany" = some (.ref (He.ga K "TooMany")) := T.glo "TooMany" 69
theorem gl_PrizeError (T : Tp K mg) : mg "PrizeError" = some (.ref (He.ga K "PrizeError")) := T.glo "PrizeError" 70
end
def q_is_whole (thing : PyData) (K : PyData → Prop) : Prop :=
  vAnd (isiB thing "int") (fun k1 => k1 (.bool (!(isiB thing "bool")))) fun t2 =>
  K t2
def q_is_within (thing : PyData) (least : PyData) (most : PyData) (K : PyData → Prop) : Prop :=
  q_is_whole thing fun i1 =>
  bT i1 fun b2 =>
  vAnd b2 (fun k8 => oLe least thing fun t3 =>
  bT t3 fun b4 =>
  vAnd b4 (fun k6 => oLe thing most fun t5 =>
  k6 t5) fun t7 =>
  k8 t7) fun t9 =>
  K t9
def q_is_from (thing : PyData) (least : PyData) (K : PyData → Prop) : Prop :=
  q_is_whole thing fun i1 =>
  bT i1 fun b2 =>
  vAnd b2 (fun k4 => oLe least thing fun t3 =>
  k4 t3) fun t5 =>
  K t5
def qb_are_weights_1 (d : PyData) (i : PyData) (s : Unit) (sk : PyData → Unit → Prop) (yd : PyData → PyData → Unit → Prop) : Prop :=
  q_is_within d (.int 0) (.int (1000000)) fun i11 =>
  yd i11 i ()
def q_are_weights (thing : PyData) (K : PyData → Prop) : Prop :=
  tOr (!(isiB thing "tuple")) (fun k8 => nLen [thing] fun t1 =>
  oLe (.int 1) t1 fun t2 =>
  bT t2 fun b3 =>
  vAnd b3 (fun k5 => oLe t1 (.int (60)) fun t4 =>
  k5 t4) fun t6 =>
  bT t6 fun b7 =>
  k8 (!b7)) fun b9 =>
  bIf b9
  (K (.bool false))
  (itemsQ thing fun l10 =>
  qLc qb_are_weights_1 thing l10 [] () fun l12 s14 =>
  nAll [(.list l12)] fun t15 =>
  bT t15 fun b16 =>
  vAnd b16 (fun k19 => nMaxL [thing] fun t17 =>
  oGt t17 (.int 0) fun t18 =>
  k19 t18) fun t20 =>
  K t20)
def q_need_weights (thing : PyData) (K : PyData → Prop) (E : Str → Prop) : Prop :=
  q_are_weights thing fun a1 =>
  bT a1 fun b2 =>
  bIf (!b2)
  (E "NoWeights")
  (K .none)
def q_need_number (thing : PyData) (K : PyData → Prop) (E : Str → Prop) : Prop :=
  q_is_from thing (.int 0) fun i1 =>
  bT i1 fun b2 =>
  bIf (!b2)
  (E "NoNumber")
  (K .none)
def q_stands_ahead (weights : PyData) (one : PyData) (other : PyData) (K : PyData → Prop) : Prop :=
  oIx one (.int 1) fun t1 =>
  oMul (.int 2) t1 fun t2 =>
  oAdd t2 (.int 1) fun t3 =>
  oIx other (.int 0) fun t4 =>
  oIx weights t4 fun t5 =>
  oMul t3 t5 fun mine6 =>
  oIx other (.int 1) fun t7 =>
  oMul (.int 2) t7 fun t8 =>
  oAdd t8 (.int 1) fun t9 =>
  oIx one (.int 0) fun t10 =>
  oIx weights t10 fun t11 =>
  oMul t9 t11 fun theirs12 =>
  oLt mine6 theirs12 fun t13 =>
  bT t13 fun b14 =>
  vOr b14 (fun k22 => oEq mine6 theirs12 fun t15 =>
  bT t15 fun b16 =>
  vAnd b16 (fun k20 => oIx one (.int 0) fun t17 =>
  oIx other (.int 0) fun t18 =>
  oLt t17 t18 fun t19 =>
  k20 t19) fun t21 =>
  k22 t21) fun t23 =>
  K t23
def q_ahead_of (weights : PyData) (part : PyData) (j : PyData) (other : PyData) (K : PyData → Prop) : Prop :=
  oMul (.int 2) j fun t1 =>
  oAdd t1 (.int 1) fun t2 =>
  oIx weights other fun t3 =>
  oMul t2 t3 fun reach4 =>
  oGt other part fun t5 =>
  bT t5 fun b6 =>
  jn (fun J9 => bIf b6
  (oI (fun n m => .int ((fun i j => i - j) n m)) reach4 (.int 1) fun reach7 =>
  J9 reach7)
  (J9 reach4)) fun reach8 =>
  oLt reach8 (.int 0) fun t10 =>
  bT t10 fun b11 =>
  bIf b11
  (K (.int 0))
  (oIx weights part fun t12 =>
  oDiv reach8 t12 fun t13 =>
  oAdd t13 (.int 1) fun t14 =>
  oDiv t14 (.int 2) fun t15 =>
  K t15)
def qb_number_in_1 (d : PyData) (i : PyData × PyData × PyData) (s : Unit) (sk : (PyData × PyData × PyData) → Unit → Prop) (yd : PyData → (PyData × PyData × PyData) → Unit → Prop) : Prop :=
  oNe d i.2.1 fun t3 =>
  bT t3 fun b4 =>
  bIf b4
  (q_ahead_of i.1 i.2.1 i.2.2 d fun a5 =>
  yd a5 (i.1, i.2.1, i.2.2) ())
  (sk (i.1, i.2.1, i.2.2) ())
def q_number_in (weights : PyData) (part : PyData) (j : PyData) (K : PyData → Prop) : Prop :=
  nLen [weights] fun t1 =>
  rng1 [t1] fun l2 =>
  qLc qb_number_in_1 (weights, part, j) l2 [] () fun l6 s8 =>
  nSum [(.list l6)] fun t9 =>
  oAdd j t9 fun t10 =>
  K t10
def q_number_of (weights : PyData) (part : PyData) (j : PyData) (K : PyData → Prop) (E : Str → Prop) : Prop :=
  q_need_weights weights (fun n1 =>
  nLen [weights] fun t2 =>
  oSub t2 (.int 1) fun t3 =>
  q_is_within part (.int 0) t3 fun i4 =>
  bT i4 fun b5 =>
  tOr (!b5) (fun k9 => oIx weights part fun t6 =>
  oEq t6 (.int 0) fun t7 =>
  bT t7 fun b8 =>
  k9 b8) fun b10 =>
  bIf b10
  (E "NoPart")
  (q_need_number j (fun n11 =>
  q_number_in weights part j fun n12 =>
  K n12) E)) E
def qb_parts_of_1 (d : PyData) (i : PyData) (s : Unit) (sk : PyData → Unit → Prop) (yd : PyData → PyData → Unit → Prop) : Prop :=
  tupQ d fun r =>
  consQ r fun part' r1 =>
  consQ r1 fun weight' r2 =>
  nilQ r2 (oGt weight' (.int 0) fun t2 =>
  bT t2 fun b3 =>
  bIf b3
  (yd part' i ())
  (sk i ()))
def q_parts_of (weights : PyData) (K : PyData → Prop) : Prop :=
  enumQ [weights] fun l1 =>
  qLc qb_parts_of_1 weights l1 [] () fun l4 s6 =>
  K (.list l4)
def qb_next_part_1 (K : PyData → Prop) (d : PyData) (i : PyData × PyData) (s : PyData) (nx bk : (PyData × PyData) → PyData → Prop) : Prop :=
  oIsN s fun t3 =>
  bT t3 fun b4 =>
  tOr b4 (fun k9 => oIx i.2 d fun t5 =>
  oIx i.2 s fun t6 =>
  q_stands_ahead i.1 (.tuple [d, t5]) (.tuple [s, t6]) fun s7 =>
  bT s7 fun b8 =>
  k9 b8) fun b10 =>
  bIf b10
  (nx (i.1, i.2) d)
  (nx (i.1, i.2) s)
def q_next_part (weights : PyData) (counts : PyData) (K : PyData → Prop) : Prop :=
  q_parts_of weights fun p1 =>
  itemsQ p1 fun l2 =>
  qFor (qb_next_part_1 K) (weights, counts) l2 .none fun s12 =>
  K s12
def qb_last_part_1 (K : PyData → Prop) (d : PyData) (i : PyData × PyData) (s : PyData) (nx bk : (PyData × PyData) → PyData → Prop) : Prop :=
  oIx i.2 d fun t3 =>
  oGt t3 (.int 0) fun t4 =>
  bT t4 fun b5 =>
  bIf b5
  (oIsN s fun t6 =>
  bT t6 fun b7 =>
  tOr b7 (fun k14 => oIx i.2 s fun t8 =>
  oSub t8 (.int 1) fun t9 =>
  oIx i.2 d fun t10 =>
  oSub t10 (.int 1) fun t11 =>
  q_stands_ahead i.1 (.tuple [s, t9]) (.tuple [d, t11]) fun s12 =>
  bT s12 fun b13 =>
  k14 b13) fun b15 =>
  bIf b15
  (nx (i.1, i.2) d)
  (nx (i.1, i.2) s))
  (nx (i.1, i.2) s)
def q_last_part (weights : PyData) (counts : PyData) (K : PyData → Prop) : Prop :=
  q_parts_of weights fun p1 =>
  itemsQ p1 fun l2 =>
  qFor (qb_last_part_1 K) (weights, counts) l2 .none fun s17 =>
  K s17
def qb_first_counts_1 (d : PyData) (i : PyData × PyData × PyData) (s : Unit) (sk : (PyData × PyData × PyData) → Unit → Prop) (yd : PyData → (PyData × PyData × PyData) → Unit → Prop) : Prop :=
  oMul (.int 2) i.2.1 fun t3 =>
  oMul t3 d fun t4 =>
  oDiv t4 i.2.2 fun t5 =>
  oAdd t5 (.int 1) fun t6 =>
  oDiv t6 (.int 2) fun t7 =>
  yd t7 (i.1, i.2.1, i.2.2) ()
def qb_first_counts_2 (K : PyData → Prop) (i : PyData × PyData) (s : List PyData) (nx bk : (PyData × PyData) → (List PyData) → Prop) : Prop :=
  nSum [(.list s)] fun t11 =>
  scalQ t11 (oLt t11 i.2 fun t12 =>
  bT t12 fun b13 =>
  bIf b13
  (q_next_part i.1 (.list s) fun n14 =>
  scalQ n14 (ixQ s n14 fun t15 =>
  oI (fun n m => .int ((fun i j => i + j) n m)) t15 (.int 1) fun t16 =>
  stQ s n14 t16 fun counts17 =>
  nx (i.1, i.2) counts17))
  (bk (i.1, i.2) s))
def qb_first_counts_3 (K : PyData → Prop) (i : PyData × PyData) (s : List PyData) (nx bk : (PyData × PyData) → (List PyData) → Prop) : Prop :=
  nSum [(.list s)] fun t20 =>
  scalQ t20 (oGt t20 i.2 fun t21 =>
  bT t21 fun b22 =>
  bIf b22
  (q_last_part i.1 (.list s) fun l23 =>
  scalQ l23 (ixQ s l23 fun t24 =>
  oI (fun n m => .int ((fun i j => i - j) n m)) t24 (.int 1) fun t25 =>
  stQ s l23 t25 fun counts26 =>
  nx (i.1, i.2) counts26))
  (bk (i.1, i.2) s))
def q_first_counts (weights : PyData) (n : PyData) (K : PyData → Prop) : Prop :=
  nSum [weights] fun together1 =>
  itemsQ weights fun l2 =>
  qLc qb_first_counts_1 (weights, n, together1) l2 [] () fun l8 s10 =>
  qWhile (qb_first_counts_2 K) (weights, n) l8 fun s19 =>
  qWhile (qb_first_counts_3 K) (weights, n) s19 fun s28 =>
  K (.tuple s28)
def q_counts_of (weights : PyData) (n : PyData) (K : PyData → Prop) (E : Str → Prop) : Prop :=
  q_need_weights weights (fun n1 =>
  q_need_number n (fun n2 =>
  q_first_counts weights n fun f3 =>
  K f3) E) E
def q_penny_in (weights : PyData) (number : PyData) (K : PyData → Prop) : Prop :=
  q_first_counts weights number fun counts1 =>
  q_next_part weights counts1 fun part2 =>
  oIx counts1 part2 fun t3 =>
  K (.tuple [part2, t3])
def q_penny_at (weights : PyData) (number : PyData) (K : PyData → Prop) (E : Str → Prop) : Prop :=
  q_need_weights weights (fun n1 =>
  q_need_number number (fun n2 =>
  q_penny_in weights number fun p3 =>
  K p3) E) E
def qb_has_none_1 (d : PyData) (i : PyData × PyData) (s : Unit) (sk : (PyData × PyData) → Unit → Prop) (yd : PyData → (PyData × PyData) → Unit → Prop) : Prop :=
  tupQ d fun r =>
  consQ r fun part' r1 =>
  consQ r1 fun weight' r2 =>
  nilQ r2 (oEq weight' (.int 0) fun t2 =>
  bT t2 fun b3 =>
  tAnd b3 (fun k7 => oIx i.2 part' fun t4 =>
  oNe t4 (.int 0) fun t5 =>
  bT t5 fun b6 =>
  k7 b6) fun b8 =>
  bIf b8
  (yd part' (i.1, i.2) ())
  (sk (i.1, i.2) ()))
def q_has_none (weights : PyData) (counts : PyData) (K : PyData → Prop) : Prop :=
  enumQ [weights] fun l1 =>
  qLc qb_has_none_1 (weights, counts) l1 [] () fun l9 s11 =>
  oEmp false (.list l9) (.list []) fun t12 =>
  K t12
def qb_are_counts_1 (E : Str → Prop) (d : PyData) (i : PyData × PyData × PyData) (s : Unit) (sk : (PyData × PyData × PyData) → Unit → Prop) (yd : PyData → (PyData × PyData × PyData) → Unit → Prop) : Prop :=
  q_is_from d (.int 0) fun i8 =>
  yd i8 (i.1, i.2.1, i.2.2) ()
def q_are_counts (weights : PyData) (n : PyData) (thing : PyData) (K : PyData → Prop) (E : Str → Prop) : Prop :=
  q_need_weights weights (fun n1 =>
  q_need_number n (fun n2 =>
  tOr (!(isiB thing "tuple")) (fun k16 => nLen [thing] fun t3 =>
  nLen [weights] fun t4 =>
  oNe t3 t4 fun t5 =>
  bT t5 fun b6 =>
  tOr b6 (fun k14 => itemsQ thing fun l7 =>
  qLc (qb_are_counts_1 E) (weights, n, thing) l7 [] () fun l9 s11 =>
  nAll [(.list l9)] fun t12 =>
  bT t12 fun b13 =>
  k14 (!b13)) fun b15 =>
  k16 b15) fun b17 =>
  bIf b17
  (K (.bool false))
  (nSum [thing] fun t18 =>
  oNe t18 n fun t19 =>
  bT t19 fun b20 =>
  tOr b20 (fun k23 => q_has_none weights thing fun h21 =>
  bT h21 fun b22 =>
  k23 (!b22)) fun b24 =>
  bIf b24
  (K (.bool false))
  (q_last_part weights thing fun last25 =>
  oIsN last25 fun t26 =>
  bT t26 fun b27 =>
  bIf b27
  (K (.bool true))
  (q_next_part weights thing fun come28 =>
  oIx thing last25 fun t29 =>
  oSub t29 (.int 1) fun t30 =>
  oIx thing come28 fun t31 =>
  q_stands_ahead weights (.tuple [last25, t30]) (.tuple [come28, t31]) fun s32 =>
  K s32)))) E) E
def q_law_stock (script : PyData) (k : PyData) (K : List PyData → Prop) : Prop :=
  oMul (.int 13) k fun t1 =>
  oAdd t1 (.int 5) fun cell2 =>
  nLen [script] fun t3 =>
  oLt k t3 fun t4 =>
  bT t4 fun b5 =>
  jn (fun J8 => bIf b5
  (oIx script k fun cell6 =>
  J8 cell6)
  (J8 cell2)) fun cell7 =>
  nAbs [cell7] fun t9 =>
  oPow (.int 10) (.int 18) fun t10 =>
  oGe t9 t10 fun t11 =>
  bT t11 fun b12 =>
  jn (fun J15 => bIf b12
  (nAbs [cell7] fun great13 =>
  J15 great13)
  (J15 (.int 0))) fun great14 =>
  oMod cell7 (.int 2147483629) fun t16 =>
  K [great14, t16, (.int 0)]
def q_law_take (stock_here : List PyData) (many : PyData) (K : PyData → List PyData → Prop) : Prop :=
  ixQ stock_here (.int 2) fun t1 =>
  oAdd t1 (.int 1) fun t2 =>
  stQ stock_here (.int 2) t2 fun stock_here3 =>
  ixQ stock_here3 (.int 0) fun t4 =>
  oGt t4 (.int 0) fun t5 =>
  bT t5 fun b6 =>
  bIf b6
  (ixQ stock_here3 (.int 0) fun t7 =>
  oMod t7 many fun found8 =>
  ixQ stock_here3 (.int 0) fun t9 =>
  oDiv t9 many fun t10 =>
  stQ stock_here3 (.int 0) t10 fun stock_here11 =>
  K found8 stock_here11)
  (ixQ stock_here3 (.int 2) fun turn12 =>
  oMod turn12 (.int 5) fun t13 =>
  oIx (.list [(.int 2147483587), (.int 2147483579), (.int 2147483563), (.int 2147483549), (.int 2147483543)]) t13 fun prime14 =>
  ixQ stock_here3 (.int 1) fun t15 =>
  oMul (.int 7919) turn12 fun t16 =>
  oMul t16 turn12 fun t17 =>
  oAdd t15 t17 fun t18 =>
  oMul (.int 104729) turn12 fun t19 =>
  oAdd t18 t19 fun t20 =>
  oAdd t20 (.int 13) fun t21 =>
  oPow t21 (.int 3) fun t22 =>
  oMod t22 prime14 fun one23 =>
  oMul one23 one23 fun t24 =>
  oMul (.int 40487) turn12 fun t25 =>
  oAdd t24 t25 fun t26 =>
  oAdd t26 (.int 7) fun t27 =>
  oMod t27 (.int 2147483497) fun two28 =>
  oMul two28 (.int 48271) fun t29 =>
  oMod t29 (.int 2147483489) fun t30 =>
  oDiv t30 (.int 16) fun t31 =>
  oMod t31 many fun t32 =>
  K t32 stock_here3)
def qb_law_weights_1 (K : PyData → List PyData → Prop) (d : PyData) (i : PyData) (s : List PyData × List PyData) (nx bk : PyData → (List PyData × List PyData) → Prop) : Prop :=
  q_law_take s.1 (.int 1000001) fun drawn7 stock_here8 =>
  oMod drawn7 (.int 7) fun t9 =>
  oPow (.int 10) (.int 6) fun t10 =>
  oMod drawn7 (.int 3) fun t11 =>
  oIx (.list [(.int 1), t10, (.int 999983)]) t11 fun t12 =>
  oMod drawn7 (.int 3) fun t13 =>
  oIx (.list [(.int 2), (.int 5), (.int 0)]) t13 fun t14 =>
  oIx (.list [(.int 3), t9, drawn7, t12, t14]) i fun t15 =>
  apQ s.2 t15 fun found16 =>
  nx i (stock_here8, found16)
def q_law_weights (stock_here : List PyData) (most : PyData) (K : PyData → List PyData → Prop) : Prop :=
  q_law_take stock_here (.int 5) fun sort1 stock_here2 =>
  q_law_take stock_here2 most fun t3 stock_here4 =>
  oAdd (.int 1) t3 fun many5 =>
  rng1 [many5] fun l6 =>
  qFor (qb_law_weights_1 K) sort1 l6 (stock_here4, []) fun s18 =>
  nMaxL [(.list s18.2)] fun t19 =>
  scalQ t19 (oEq t19 (.int 0) fun t20 =>
  bT t20 fun b21 =>
  jn (fun J24 => bIf b21
  (stQ s18.2 (.int (-1)) (.int 4) fun found22 =>
  J24 found22)
  (J24 s18.2)) fun found23 =>
  K (.tuple found23) s18.1)
def q_law_kind (caught : PyData) (K : PyData → Prop) : Prop :=
  isxQ caught ["NoWeights"] fun b1 =>
  isxQ caught ["NoPart"] fun b2 =>
  isxQ caught ["NoNumber"] fun b3 =>
  apQ [(.bool b1), (.bool b2)] (.bool b3) fun kinds4 =>
  isxQ caught ["NoLog"] fun b5 =>
  isxQ caught ["NoChase"] fun b6 =>
  isxQ caught ["NoMiles"] fun b7 =>
  isxQ caught ["NoLogs"] fun b8 =>
  isxQ caught ["NoTable"] fun b9 =>
  isxQ caught ["NoSights"] fun b10 =>
  isxQ caught ["NoSet"] fun b11 =>
  isxQ caught ["NoRoll"] fun b12 =>
  oAdd (.list [(.bool b5), (.bool b6), (.bool b7)]) (.list [(.bool b8), (.bool b9), (.bool b10), (.bool b11), (.bool b12)]) fun others13 =>
  isxQ caught ["NoName"] fun b14 =>
  isxQ caught ["NoHour"] fun b15 =>
  isxQ caught ["NoScheme"] fun b16 =>
  isxQ caught ["NoCrew"] fun b17 =>
  isxQ caught ["NoMan"] fun b18 =>
  oAdd others13 (.list [(.bool b14), (.bool b15), (.bool b16), (.bool b17), (.bool b18)]) fun others19 =>
  isxQ caught ["NoSale"] fun b20 =>
  isxQ caught ["NoCrews"] fun b21 =>
  isxQ caught ["NoPages"] fun b22 =>
  isxQ caught ["NoPage"] fun b23 =>
  isxQ caught ["NoPrize"] fun b24 =>
  oAdd others19 (.list [(.bool b20), (.bool b21), (.bool b22), (.bool b23), (.bool b24)]) fun others25 =>
  isxQ caught ["NoBalances"] fun b26 =>
  isxQ caught ["NoMoney"] fun b27 =>
  isxQ caught ["NoChange"] fun b28 =>
  isxQ caught ["NoText"] fun b29 =>
  isxQ caught ["NoRow"] fun b30 =>
  catN others25 (.list [(.bool b26), (.bool b27), (.bool b28), (.bool b29), (.bool b30)]) fun l31 =>
  isxQ caught ["TooMany"] fun b32 =>
  apQ l31 (.bool b32) fun others33 =>
  lstQ (.list kinds4) fun l34 =>
  cntQ l34 (.bool true) fun t35 =>
  oNe t35 (.int 1) fun t36 =>
  bT t36 fun b37 =>
  tOr b37 (fun k43 => oIn (.bool true) (.list others33) fun t38 =>
  bT t38 fun b39 =>
  tOr b39 (fun k41 => isvQ caught fun b40 =>
  k41 (!b40)) fun b42 =>
  k43 b42) fun b44 =>
  bIf b44
  (K (.str "odd"))
  (lstQ (.list kinds4) fun l45 =>
  idxQ l45 (.bool true) fun t46 =>
  oIx (.list [(.str "weights"), (.str "part"), (.str "number")]) t46 fun t47 =>
  K t47)
def q_law_word (th : Prop → (Str → Prop) → Prop) (K : PyData → Prop) : Prop :=
  jn (fun J2 => th (J2 .none) (fun c => J2 (exD c))) fun caught1 =>
  oIsN caught1 fun t3 =>
  bT t3 fun b4 =>
  vIf b4 (fun k7 => k7 (.str "told")) (fun k7 => q_law_kind caught1 fun k5 =>
  k7 k5) fun t6 =>
  K t6
def qb_law_bads_1 (d : PyData) (i : List PyData × PyData × PyData) (s : Unit) (sk : (List PyData × PyData × PyData) → Unit → Prop) (yd : PyData → (List PyData × PyData × PyData) → Unit → Prop) : Prop :=
  tupQ d fun r =>
  consQ r fun at_' r1 =>
  consQ r1 fun weight' r2 =>
  nilQ r2 (oEq weight' (.int 0) fun t9 =>
  bT t9 fun b10 =>
  bIf b10
  (yd at_' (i.1, i.2.1, i.2.2) ())
  (sk (i.1, i.2.1, i.2.2) ()))
def q_law_bads (stock_here : List PyData) (weights_here : PyData) (K : PyData → List PyData → Prop) : Prop :=
  nLen [weights_here] fun many1 =>
  oPow (.int 10) (.int 39) fun t2 =>
  oAdd many1 (.int 5) fun t3 =>
  oNeg many1 fun t4 =>
  q_law_take stock_here (.int 12) fun t5 stock_here6 =>
  oIx (.list [(.int (-1)), many1, (.bool true), (.bool false), .none, (.str "0"), (.tuple [(.int 0)]), (.list [(.int 0)]), t2, (.dict []), t3, t4]) t5 fun part7 =>
  enumQ [weights_here] fun l8 =>
  qLc qb_law_bads_1 (stock_here6, weights_here, part7) l8 [] () fun l11 s13 =>
  jn (fun k18 => bIf (List.isEmpty l11 != true) (q_law_take stock_here6 (.int 2) fun t14 stock_here15 =>
  oEq t14 (.int 0) fun t16 =>
  bT t16 fun b17 =>
  k18 b17 stock_here15) (k18 false stock_here6)) fun b19 stock_here20 =>
  jn (fun J26 => bIf b19
  (q_law_take stock_here20 (.int ((List.length l11 : Nat) : Int)) fun t21 stock_here22 =>
  ixQ l11 t21 fun part23 =>
  J26 stock_here22 part23)
  (J26 stock_here20 part7)) fun stock_here24 part25 =>
  oPow (.int 10) (.int 6) fun t27 =>
  oAdd t27 (.int 1) fun t28 =>
  oMul (.tuple [(.int 1)]) (.int 61) fun t29 =>
  q_law_take stock_here24 (.int 12) fun t30 stock_here31 =>
  oIx (.list [(.tuple []), (.tuple [(.int 0)]), (.tuple [(.int 0), (.int 0)]), (.tuple [(.int (-1)), (.int 2)]), (.tuple [(.bool true), (.int 2)]), (.list [(.int 1), (.int 2)]), .none, (.str "12"), (.tuple [t28]), t29, (.dict []), (.int 7)]) t30 fun t32 =>
  oPow (.int 10) (.int 39) fun t33 =>
  oNeg t33 fun t34 =>
  q_law_take stock_here31 (.int 10) fun t35 stock_here36 =>
  oIx (.list [(.int (-1)), (.bool true), (.bool false), .none, (.str "3"), (.tuple [(.int 3)]), (.list [(.int 3)]), t34, (.dict []), (.tuple [(.tuple [])])]) t35 fun t37 =>
  K (.list [t32, part25, t37]) stock_here36
def qb_law_first_1 (K : PyData → Prop) (d : PyData) (i : PyData) (s : Unit) (nx bk : PyData → Unit → Prop) : Prop :=
  oIx i d fun t2 =>
  bT t2 fun b3 =>
  bIf b3
  (oIx (.list [(.str "weights"), (.str "part"), (.str "number")]) d fun t4 =>
  K t4)
  (nx i ())
def q_law_first (wrong : PyData) (places : PyData) (K : PyData → Prop) : Prop :=
  itemsQ places fun l1 =>
  qFor (qb_law_first_1 K) wrong l1 () fun s6 =>
  K (.str "told")
def q_law_calls (some_ : PyData) (thing : PyData) (K : PyData → PyData → PyData → PyData → PyData → Prop) : Prop :=
  seqQ some_ fun r1 =>
  consQ r1 fun weights_here2 r3 =>
  consQ r3 fun part4 r5 =>
  consQ r5 fun number6 r7 =>
  nilQ r7 (K some_ thing weights_here2 part4 number6)
def qb_law_2 (d : PyData) (i : PyData × List PyData × PyData × PyData) (s : Unit) (sk : (PyData × List PyData × PyData × PyData) → Unit → Prop) (yd : PyData → (PyData × List PyData × PyData × PyData) → Unit → Prop) : Prop :=
  tupQ d fun r =>
  consQ r fun part' r1 =>
  consQ r1 fun weight' r2 =>
  nilQ r2 (oGt weight' (.int 0) fun t11 =>
  bT t11 fun b12 =>
  bIf b12
  (yd part' (i.1, i.2.1, i.2.2.1, i.2.2.2) ())
  (sk (i.1, i.2.1, i.2.2.1, i.2.2.2) ()))
def qb_law_4 (d : PyData) (i : PyData × PyData × PyData × PyData × PyData) (s : Unit) (sk : (PyData × PyData × PyData × PyData × PyData) → Unit → Prop) (yd : PyData → (PyData × PyData × PyData × PyData × PyData) → Unit → Prop) : Prop :=
  oDiv i.2.2.2.2 d fun t33 =>
  oMod t33 (.int 2) fun t34 =>
  oEq t34 (.int 1) fun t35 =>
  yd t35 (i.1, i.2.1, i.2.2.1, i.2.2.2.1, i.2.2.2.2) ()
def qb_law_5 (d : PyData) (i : PyData × PyData × PyData × PyData × List PyData) (s : Unit) (sk : (PyData × PyData × PyData × PyData × List PyData) → Unit → Prop) (yd : PyData → (PyData × PyData × PyData × PyData × List PyData) → Unit → Prop) : Prop :=
  ixQ i.2.2.2.2 d fun t40 =>
  nInt [t40] fun t41 =>
  oIx (.list [i.2.2.1, i.2.1]) t41 fun t42 =>
  oIx t42 d fun t43 =>
  yd t43 (i.1, i.2.1, i.2.2.1, i.2.2.2.1, i.2.2.2.2) ()
def qb_law_6 (K : PyData → Prop) (tbl : List (Nat × DTh)) (d : PyData) (i : PyData × PyData × PyData × PyData × PyData) (s : Unit) (nx bk : (PyData × PyData × PyData × PyData × PyData) → Unit → Prop) : Prop :=
  tupQ d fun r53 =>
  consQ r53 fun call54 r55 =>
  consQ r55 fun places56 r57 =>
  nilQ r57 (callT tbl call54 fun th59 =>
  q_law_word (fun p Er => th59 (fun _ => p) Er) fun w58 =>
  q_law_first i.2.2.2.2 places56 fun f60 =>
  oNe w58 f60 fun t61 =>
  bT t61 fun b62 =>
  bIf b62
  (K (.bool false))
  (nx (i.1, i.2.1, i.2.2.1, i.2.2.2.1, i.2.2.2.2) ()))
def qb_law_3 (K : PyData → Prop) (d : PyData) (i : PyData × PyData × PyData × PyData) (s : Unit) (nx bk : (PyData × PyData × PyData × PyData) → Unit → Prop) : Prop :=
  itemsQ (.tuple [(.int 1), (.int 2), (.int 4)]) fun l32 =>
  qLc qb_law_4 (i.1, i.2.1, i.2.2.1, i.2.2.2, d) l32 [] () fun l36 s38 =>
  rng1 [(.int 3)] fun l39 =>
  qLc qb_law_5 (i.1, i.2.1, i.2.2.1, i.2.2.2, l36) l39 [] () fun l44 s46 =>
  q_law_calls (.list l44) i.2.2.2 fun c47 c48 c49 c50 c51 =>
  ∀ fs52 : List Nat, List.length fs52 = 4 →
  qFor (qb_law_6 K (tblP [(fun Pr Er => q_number_of c49 c50 c51 (fun n8 =>
  Pr (.dat n8)) Er), (fun Pr Er => q_penny_at c49 c51 (fun p9 =>
  Pr (.dat p9)) Er), (fun Pr Er => q_counts_of c49 c51 (fun c10 =>
  Pr (.dat c10)) Er), (fun Pr Er => q_are_counts c49 c51 c48 (fun a11 =>
  Pr (.dat a11)) Er)] fs52)) (i.1, i.2.1, i.2.2.1, i.2.2.2, (.list l36)) (itmsP [[0, 1, 2], [0, 2], [0, 2], [0, 2]] fs52) () fun s64 =>
  nx (i.1, i.2.1, i.2.2.1, i.2.2.2) ()
def qb_law_1 (K : PyData → Prop) (d : PyData) (i : PyData) (s : Unit) (nx bk : PyData → Unit → Prop) : Prop :=
  q_law_stock i d fun stock_here5 =>
  q_law_weights stock_here5 (.int 60) fun weights_here6 stock_here7 =>
  q_law_bads stock_here7 weights_here6 fun bad8 stock_here9 =>
  enumQ [weights_here6] fun l10 =>
  qLc qb_law_2 (i, stock_here9, weights_here6, bad8) l10 [] () fun l13 s15 =>
  q_law_take stock_here9 (.int ((List.length l13 : Nat) : Int)) fun t16 stock_here17 =>
  ixQ l13 t16 fun t18 =>
  oPow (.int 10) (.int 15) fun t19 =>
  oPow (.int 10) (.int 6) fun t20 =>
  q_law_take stock_here17 t20 fun t21 stock_here22 =>
  q_law_take stock_here22 (.int 3) fun t23 stock_here24 =>
  oIx (.list [(.int 0), t19, t21]) t23 fun t25 =>
  nLen [weights_here6] fun t26 =>
  oMul (.tuple [(.int 0)]) t26 fun t27 =>
  q_law_take stock_here24 (.int 5) fun t28 stock_here29 =>
  oIx (.list [.none, weights_here6, (.dict []), (.int 0), t27]) t28 fun thing30 =>
  itemsQ (.list [(.int 7), (.int 0), (.int 1), (.int 2), (.int 3), (.int 4), (.int 5), (.int 6), (.int 0)]) fun l31 =>
  qFor (qb_law_3 K) (i, bad8, (.list [weights_here6, t18, t25]), thing30) l31 () fun s66 =>
  nx i ()
def q_law (script : PyData) (K : PyData → Prop) : Prop :=
  nLen [script] fun t1 =>
  nMin2 [(.int 16), t1] fun t2 =>
  nMax2 [(.int 4), t2] fun t3 =>
  rng1 [t3] fun l4 =>
  qFor (qb_law_1 K) script l4 () fun s68 =>
  K (.bool true)
local macro_rules | `(tactic| walk_at "q") => `(tactic| try simp only [q_bT, q_add, q_addT, q_addL, q_addS, q_sub, q_mul, q_mulT, q_div, q_mod, q_pow, q_neg, q_lt, q_le, q_gt, q_ge, q_oI, q_eq, q_ne, q_eqS, q_neS, q_isN, q_isNi, q_isNt, q_isNs, q_notN, q_notNi, q_notNt, q_ix, q_ixL, q_ixQ, q_len, q_lenT, q_lenS, q_abs, q_min, q_max, q_tupleOf, q_tupleOfT, q_int, q_intB, q_list, q_listT, q_tup, q_cons, q_nil, q_so, q_lst, q_items, q_itemsT, q_rev, q_zip, q_zipT, q_rng1, q_rng2, q_sumI, q_sumTI, q_allB, q_anyB, q_ap, q_jn, q_fd, q_rep, q_slT, q_slL, q_max3, q_min3, q_str, q_cat, q_catN, q_scalN, q_scalB, q_scalI, q_scalS, q_enumL, q_enumT, q_inL, q_inT, q_inS, q_ninL, q_ninT, q_ninS, Bool.true_eq_false, Bool.false_eq_true, false_imp_iff, true_imp_iff, q_eqB, q_neB, q_empL, q_empT, q_isB, q_revL, q_revT, List.isEmpty_cons, List.isEmpty_nil, bne_self_eq_false, Bool.bne_false, Bool.bne_true, q_same, q_tAnd_k, q_tOr_k, q_vAnd_k, q_vOr_k, q_tAnd_s, q_tOr_s, q_vAnd_s, q_vOr_s, q_vIf_k, q_tAnd_t, q_tAnd_f, q_tOr_t, q_tOr_f, q_vAnd_t, q_vAnd_f, q_vOr_t, q_vOr_f, q_vIf_t, q_vIf_f, at0, at1, at2, at3, at4, at5, at6, atLast, st0, st1, st2, st3, st4, bIf_t, bIf_f, true_and, and_true, Bool.not_true, Bool.not_false, Bool.true_and, Bool.false_and, Bool.and_true, Bool.and_false, Bool.true_or, Bool.or_true, Bool.false_or, Bool.or_false, Bool.not_not, decide_true, decide_false, List.length_cons, List.cons_append, List.nil_append, List.length_nil, List.length_map, List.length_append, isi_non_int, isi_non_bool, isi_non_str, isi_non_list, isi_non_tuple, isi_non_dict, isi_bl_int, isi_bl_bool, isi_bl_str, isi_bl_list, isi_bl_tuple, isi_bl_dict, isi_int_int, isi_int_bool, isi_int_str, isi_int_list, isi_int_tuple, isi_int_dict, isi_str_int, isi_str_bool, isi_str_str, isi_str_list, isi_str_tuple, isi_str_dict, isi_lst_int, isi_lst_bool, isi_lst_str, isi_lst_list, isi_lst_tuple, isi_lst_dict, isi_tup_int, isi_tup_bool, isi_tup_str, isi_tup_list, isi_tup_tuple, isi_tup_dict, isi_dct_int, isi_dct_bool, isi_dct_str, isi_dct_list, isi_dct_tuple, isi_dct_dict])
local macro_rules | `(tactic| walk_at "side") => `(tactic| first | assumption | exact rfl | omega | exact sz_of (by omega) (by omega) | decide | (refine ⟨?_, ?_⟩ <;> walk_at "side"))
local macro_rules | `(tactic| walk_at "sides") => `(tactic| repeat ((with_reducible refine And.intro ?_ ?_); (· walk_at "side"); walk_at "q"))
local macro_rules | `(tactic| walk_at "go") => `(tactic| (walk_at "q"; walk_at "sides"))
local macro_rules | `(tactic| walk_at "j") => `(tactic| try simp only [q_bT, q_add, q_addT, q_addL, q_addS, q_sub, q_mul, q_mulT, q_div, q_mod, q_pow, q_neg, q_lt, q_le, q_gt, q_ge, q_oI, q_eq, q_ne, q_eqS, q_neS, q_isN, q_isNi, q_isNt, q_isNs, q_notN, q_notNi, q_notNt, q_ix, q_ixL, q_ixQ, q_len, q_lenT, q_lenS, q_abs, q_min, q_max, q_tupleOf, q_tupleOfT, q_int, q_intB, q_list, q_listT, q_tup, q_cons, q_nil, q_so, q_lst, q_items, q_itemsT, q_rev, q_zip, q_zipT, q_rng1, q_rng2, q_sumI, q_sumTI, q_allB, q_anyB, q_ap, q_fd, q_rep, q_slT, q_slL, q_max3, q_min3, q_str, q_cat, q_catN, q_scalN, q_scalB, q_scalI, q_scalS, q_enumL, q_enumT, q_inL, q_inT, q_inS, q_ninL, q_ninT, q_ninS, Bool.true_eq_false, Bool.false_eq_true, false_imp_iff, true_imp_iff, q_eqB, q_neB, q_empL, q_empT, q_isB, q_revL, q_revT, List.isEmpty_cons, List.isEmpty_nil, bne_self_eq_false, Bool.bne_false, Bool.bne_true, q_same, q_tAnd_k, q_tOr_k, q_vAnd_k, q_vOr_k, q_tAnd_s, q_tOr_s, q_vAnd_s, q_vOr_s, q_vIf_k, q_tAnd_t, q_tAnd_f, q_tOr_t, q_tOr_f, q_vAnd_t, q_vAnd_f, q_vOr_t, q_vOr_f, q_vIf_t, q_vIf_f, at0, at1, at2, at3, at4, at5, at6, atLast, st0, st1, st2, st3, st4, bIf_t, bIf_f, true_and, and_true, Bool.not_true, Bool.not_false, Bool.true_and, Bool.false_and, Bool.and_true, Bool.and_false, Bool.true_or, Bool.or_true, Bool.false_or, Bool.or_false, Bool.not_not, decide_true, decide_false, List.length_cons, List.cons_append, List.nil_append, List.length_nil, List.length_map, List.length_append, isi_non_int, isi_non_bool, isi_non_str, isi_non_list, isi_non_tuple, isi_non_dict, isi_bl_int, isi_bl_bool, isi_bl_str, isi_bl_list, isi_bl_tuple, isi_bl_dict, isi_int_int, isi_int_bool, isi_int_str, isi_int_list, isi_int_tuple, isi_int_dict, isi_str_int, isi_str_bool, isi_str_str, isi_str_list, isi_str_tuple, isi_str_dict, isi_lst_int, isi_lst_bool, isi_lst_str, isi_lst_list, isi_lst_tuple, isi_lst_dict, isi_tup_int, isi_tup_bool, isi_tup_str, isi_tup_list, isi_tup_tuple, isi_tup_dict, isi_dct_int, isi_dct_bool, isi_dct_str, isi_dct_list, isi_dct_tuple, isi_dct_dict])
def isW : PyData → Bool
  | .int _ => true
  | _ => false
def isIn (a : PyData) (l m : Int) : Bool := match a with
  | .int i => decide (l ≤ i) && decide (i ≤ m)
  | _ => false
structure Sale (g c r h b p q : Int) : Prop where
  g0 : 0 ≤ g
  g1 : g ≤ 10 ^ 12
  c0 : 0 ≤ c
  c1 : c ≤ 10 ^ 12
  r0 : 0 ≤ r
  r1 : r ≤ 10000
  h0 : 0 ≤ h
  h1 : h ≤ 1000
  b0 : 0 ≤ b
  b1 : b ≤ 10 ^ 9
  p0 : 0 ≤ p
  pq : p ≤ q
  q0 : 0 < q
  q1 : q ≤ 10 ^ 40
  co : Int.gcd p q = 1
structure SaleB (g c r h b p q : Int) : Prop where
  g0 : 0 ≤ g
  g1 : g ≤ 10 ^ 70
  c0 : 0 ≤ c
  c1 : c ≤ 10 ^ 12
  r0 : 0 ≤ r
  r1 : r ≤ 10000
  h0 : 0 ≤ h
  h1 : h ≤ 1000
  b0 : 0 ≤ b
  b1 : b ≤ 10 ^ 9
  p0 : 0 ≤ p
  pq : p ≤ q
  q0 : 0 < q
  q1 : q ≤ 10 ^ 40
theorem Sale.B {g c r h b p q : Int} (s : Sale g c r h b p q) : SaleB g c r h b p q := ⟨s.g0, Int.le_trans s.g1 (by decide), s.c0, s.c1, s.r0, s.r1, s.h0, s.h1, s.b0, s.b1, s.p0, s.pq, s.q0, s.q1⟩
def paid (g c : Int) : Int := if g < c then g else c
def caps (g c p q : Int) : Int := (g - paid g c) * p / q
def pot (g c h b p q : Int) : Int := caps g c p q + h * b
def fee (g c r h b p q : Int) : Int := pot g c h b p q * r / 10000
def PotOk (n : Int) (xs : List PyData) : Prop := ∃ g s t : Int, xs = [.int g, .int s, .int t] ∧ 0 ≤ s ∧ s ≤ 10 ^ 12 ∧ 0 ≤ t ∧ t ≤ n
theorem PotOk.mono {n m : Int} {xs : List PyData} (h : PotOk n xs) (e : n ≤ m) : PotOk m xs := by
  obtain ⟨g, s, t, h1, h2, h3, h4, h5⟩ := h
  exact ⟨g, s, t, h1, h2, h3, h4, by omega⟩
theorem caps_le {x p q : Int} (h0 : 0 ≤ x) (h1 : 0 ≤ p) (h2 : p ≤ q) (h3 : 0 < q) : 0 ≤ x * p / q ∧ x * p / q ≤ x := by
  refine ⟨Int.ediv_nonneg (Int.mul_nonneg h0 h1) (by omega), ?_⟩
  have : x * p ≤ x * q := Int.mul_le_mul_of_nonneg_left h2 h0
  exact Int.le_trans (Int.ediv_le_ediv h3 this) (by rw [Int.mul_ediv_cancel _ (by omega)]; exact Int.le_refl x)
theorem paid_in {g c : Int} (h0 : 0 ≤ g) (h1 : 0 ≤ c) : 0 ≤ paid g c ∧ paid g c ≤ g := by
  unfold paid
  split <;> omega
theorem sale_caps {g c r h b p q : Int} (s : Sale g c r h b p q) : 0 ≤ caps g c p q ∧ caps g c p q ≤ 10 ^ 12 := by
  have h1 := paid_in s.g0 s.c0
  have h2 := s.g1
  have h3 := caps_le (x := g - paid g c) (by omega) s.p0 s.pq s.q0
  unfold caps
  constructor
  · exact h3.1
  · exact Int.le_trans h3.2 (by omega)
theorem sale_pot {g c r h b p q : Int} (s : Sale g c r h b p q) : 0 ≤ pot g c h b p q ∧ pot g c h b p q ≤ 10 ^ 13 := by
  have h1 := sale_caps s
  have h2 : 0 ≤ h * b := Int.mul_nonneg s.h0 s.b0
  have h3 : h * b ≤ 1000 * 10 ^ 9 := Int.mul_le_mul s.h1 s.b1 s.b0 (by decide)
  unfold pot
  constructor <;> omega
theorem mem3 {α : Type} {x a b c : α} (h : x ∈ [a, b, c]) : x = a ∨ x = b ∨ x = c := by simpa using h
theorem mem5 {α : Type} {x a b c d e : α} (h : x ∈ [a, b, c, d, e]) : x = a ∨ x = b ∨ x = c ∨ x = d ∨ x = e := by simpa using h
def sharedOf (g c r h b p q : Int) : Int := pot g c h b p q - fee g c r h b p q
theorem Sale.sh {g c r h b p q : Int} (s : Sale g c r h b p q) : 0 ≤ sharedOf g c r h b p q ∧ sharedOf g c r h b p q ≤ 10 ^ 13 := by
  have h1 := sale_pot s
  have h2 := caps_le (x := pot g c h b p q) h1.1 s.r0 s.r1 (by decide : (0 : Int) < 10000)
  unfold sharedOf fee
  omega
theorem Sale.zero {g c r h b p q : Int} (s : Sale g c r h b p q) : Sale 0 c r h b p q := ⟨by omega, by omega, s.c0, s.c1, s.r0, s.r1, s.h0, s.h1, s.b0, s.b1, s.p0, s.pq, s.q0, s.q1, s.co⟩
theorem is_whole_q (a : PyData) (K : PyData → Prop) : q_is_whole a K = K (.bool (isW a)) := by
  cases a with
  | dict kv => rcases kv with _ | ⟨⟨kz, vz⟩, rz⟩ <;> (try cases kz) <;> rfl
  | _ => rfl
theorem is_within_q (a : PyData) (l m : Int) (K : PyData → Prop) : q_is_within a (.int l) (.int m) K = K (.bool (isIn a l m)) := by
  unfold q_is_within
  simp only [is_whole_q]
  cases a <;> simp only [isW, isIn] <;> walk_at "q"
def isFrom (a : PyData) (l : Int) : Bool := match a with
  | .int i => decide (l ≤ i)
  | _ => false
theorem is_from_q (a : PyData) (l : Int) (K : PyData → Prop) : q_is_from a (.int l) K = K (.bool (isFrom a l)) := by
  unfold q_is_from
  simp only [is_whole_q]
  cases a <;> simp only [isW, isFrom] <;> walk_at "q"
def gv (l : List Int) (i : Nat) : Int := l.getD i 0
theorem gv_get {l : List Int} {i : Nat} {a : Int} (h : l[i]? = some a) : gv l i = a := by
  unfold gv
  rw [List.getD_eq_getElem?_getD, h]
  rfl
theorem gv_in {l : List Int} {i : Nat} (h : i < l.length) : l[i]? = some (gv l i) := by
  unfold gv
  rw [List.getD_eq_getElem?_getD]
  simp [h]
theorem gv_out {l : List Int} {i : Nat} (h : l.length ≤ i) : gv l i = 0 := by
  unfold gv
  rw [List.getD_eq_getElem?_getD, List.getElem?_eq_none h]
  rfl
theorem gv_mem {l : List Int} {i : Nat} (h : i < l.length) : gv l i ∈ l := List.mem_of_getElem? (gv_in h)
theorem pick_int {l : List Int} {i : Nat} {P : PyData → Prop} (h : i < l.length) : pick (l.map .int) (i : Int) P = P (.int (gv l i)) := pick_lit i (by rw [List.getElem?_map, gv_in h]; rfl)
theorem gv_set {l : List Int} {p i : Nat} {v : Int} (h : p < l.length) : gv (l.set p v) i = if i = p then v else gv l i := by
  unfold gv
  rw [List.getD_eq_getElem?_getD, List.getD_eq_getElem?_getD, List.getElem?_set]
  by_cases e : p = i
  · subst e
    simp [h]
  · rw [if_neg e, if_neg (fun z => e z.symm)]
theorem sum_set : ∀ {l : List Int} {p : Nat} {v : Int}, p < l.length → (l.set p v).sum = l.sum - gv l p + v
  | [], _, _, h => by simp at h
  | a :: l, 0, v, _ => by
    have : gv (a :: l) 0 = a := rfl
    rw [this, List.set_cons_zero, List.sum_cons, List.sum_cons]
    omega
  | a :: l, p + 1, v, h => by
    have : gv (a :: l) (p + 1) = gv l p := rfl
    rw [this, List.set_cons_succ, List.sum_cons, List.sum_cons, sum_set (by simpa using h)]
    omega
theorem sum_nonneg : ∀ {l : List Int}, (∀ a ∈ l, 0 ≤ a) → 0 ≤ l.sum
  | [], _ => Int.le_refl _
  | a :: l, h => by
    rw [List.sum_cons]
    have := h a (by simp)
    have := sum_nonneg (l := l) fun b hb => h b (by simp [hb])
    omega
theorem le_sum : ∀ {l : List Int}, (∀ a ∈ l, 0 ≤ a) → ∀ a ∈ l, a ≤ l.sum
  | [], _, a, ha => by simp at ha
  | b :: l, h, a, ha => by
    rw [List.sum_cons]
    have h0 := h b (by simp)
    have h1 : ∀ c ∈ l, 0 ≤ c := fun c hc => h c (by simp [hc])
    rcases List.mem_cons.mp ha with rfl | ha
    · have := sum_nonneg h1
      omega
    · have := le_sum h1 a ha
      omega
theorem sum_pos {l : List Int} (h : 0 < l.sum) : ∃ i, i < l.length ∧ 0 < gv l i := by
  induction l with
  | nil => simp at h
  | cons a l ih =>
    by_cases ha : 0 < a
    · exact ⟨0, by simp, ha⟩
    · rw [List.sum_cons] at h
      obtain ⟨i, h1, h2⟩ := ih (by omega)
      exact ⟨i + 1, by simp; omega, h2⟩
def Ahead (ws : List Int) (i : Nat) (k : Int) (j : Nat) (l : Int) : Prop := (2 * k + 1) * gv ws j < (2 * l + 1) * gv ws i ∨ ((2 * k + 1) * gv ws j = (2 * l + 1) * gv ws i ∧ i < j)
instance {ws : List Int} {i j : Nat} {k l : Int} : Decidable (Ahead ws i k j l) := by unfold Ahead; infer_instance
theorem ahead_total {ws : List Int} {i j : Nat} {k l : Int} (h : i ≠ j) : Ahead ws i k j l ∨ Ahead ws j l i k := by
  unfold Ahead
  omega
theorem ahead_trans {ws : List Int} {i j m : Nat} {k l r : Int} (wj : 0 < gv ws j) (wi : 0 < gv ws i) (wm : 0 < gv ws m) (h1 : Ahead ws i k j l) (h2 : Ahead ws j l m r) : Ahead ws i k m r := by
  unfold Ahead at *
  have e1 : (2 * k + 1) * gv ws j * gv ws m ≤ (2 * l + 1) * gv ws i * gv ws m := Int.mul_le_mul_of_nonneg_right (by omega) (by omega)
  have e2 : (2 * l + 1) * gv ws m * gv ws i ≤ (2 * r + 1) * gv ws j * gv ws i := Int.mul_le_mul_of_nonneg_right (by omega) (by omega)
  have e3 : (2 * l + 1) * gv ws i * gv ws m = (2 * l + 1) * gv ws m * gv ws i := Int.mul_right_comm _ _ _
  have e4 : (2 * k + 1) * gv ws j * gv ws m = (2 * k + 1) * gv ws m * gv ws j := Int.mul_right_comm _ _ _
  have e5 : (2 * r + 1) * gv ws j * gv ws i = (2 * r + 1) * gv ws i * gv ws j := Int.mul_right_comm _ _ _
  have big : (2 * k + 1) * gv ws m * gv ws j ≤ (2 * r + 1) * gv ws i * gv ws j := by omega
  have le : (2 * k + 1) * gv ws m ≤ (2 * r + 1) * gv ws i := Int.le_of_mul_le_mul_right big wj
  rcases Int.lt_or_eq_of_le le with lt | eq
  · exact .inl lt
  · refine .inr ⟨eq, ?_⟩
    have z : (2 * k + 1) * gv ws m * gv ws j = (2 * r + 1) * gv ws i * gv ws j := by rw [eq]
    have z1 : (2 * k + 1) * gv ws j * gv ws m = (2 * l + 1) * gv ws i * gv ws m := by omega
    have z2 : (2 * l + 1) * gv ws m * gv ws i = (2 * r + 1) * gv ws j * gv ws i := by omega
    have y1 := Int.eq_of_mul_eq_mul_right (by omega) z1
    have y2 := Int.eq_of_mul_eq_mul_right (by omega) z2
    omega
structure WOk (ws : List Int) : Prop where
  n0 : 1 ≤ ws.length
  n1 : ws.length ≤ 60
  r : ∀ w ∈ ws, 0 ≤ w ∧ w ≤ 1000000
  pos : ∃ w ∈ ws, 0 < w
theorem WOk.g {ws : List Int} (h : WOk ws) (i : Nat) : 0 ≤ gv ws i ∧ gv ws i ≤ 1000000 := by
  by_cases hi : i < ws.length
  · exact h.r _ (gv_mem hi)
  · rw [gv_out (by omega)]
    omega
theorem WOk.some {ws : List Int} (h : WOk ws) : ∃ i, i < ws.length ∧ 0 < gv ws i := by
  obtain ⟨w, hw, w0⟩ := h.pos
  obtain ⟨i, hi⟩ := List.mem_iff_getElem?.mp hw
  exact ⟨i, (List.getElem?_eq_some_iff.mp hi).1, by rw [gv_get hi]; exact w0⟩
theorem WOk.sum {ws : List Int} (h : WOk ws) : 0 < ws.sum ∧ ws.sum ≤ 60 * 1000000 := by
  have h0 : ∀ w ∈ ws, 0 ≤ w := fun w hw => (h.r w hw).1
  constructor
  · obtain ⟨w, hw, w0⟩ := h.pos
    have := le_sum h0 w hw
    omega
  · have : ∀ l : List Int, (∀ w ∈ l, 0 ≤ w ∧ w ≤ 1000000) → l.sum ≤ l.length * 1000000 := fun l hl => by
      induction l with
      | nil => simp
      | cons a l ih =>
        rw [List.sum_cons, List.length_cons]
        have := ih fun w hw => hl w (by simp [hw])
        have := (hl a (by simp)).2
        omega
    have := this ws h.r
    have := h.n1
    omega
/-- counts of first pennies of the row -/
structure Bal (ws c : List Int) : Prop where
  len : c.length = ws.length
  c0 : ∀ i, 0 ≤ gv c i
  no : ∀ i, gv ws i = 0 → gv c i = 0
  ord : ∀ i j, i < ws.length → j < ws.length → i ≠ j → 0 < gv ws i → 0 < gv ws j → 0 < gv c i → Ahead ws i (gv c i - 1) j (gv c j)
/-- the next penny's part; the last one's -/
def Next (ws c : List Int) (i : Nat) : Prop := i < ws.length ∧ 0 < gv ws i ∧ ∀ j, j < ws.length → 0 < gv ws j → j ≠ i → Ahead ws i (gv c i) j (gv c j)
def Last (ws c : List Int) (i : Nat) : Prop := i < ws.length ∧ 0 < gv ws i ∧ 0 < gv c i ∧ ∀ j, j < ws.length → 0 < gv ws j → 0 < gv c j → j ≠ i → Ahead ws j (gv c j - 1) i (gv c i - 1)
theorem Bal.ofL {ws c : List Int} (h : Bal ws c) : ∀ a ∈ c, 0 ≤ a := fun a ha => by
  obtain ⟨i, hi⟩ := List.mem_iff_getElem?.mp ha
  rw [← gv_get hi]
  exact h.c0 i
theorem Bal.le {ws c : List Int} (h : Bal ws c) (i : Nat) : gv c i ≤ c.sum := by
  by_cases hi : i < c.length
  · exact le_sum h.ofL _ (gv_mem hi)
  · rw [gv_out (by omega)]
    exact sum_nonneg h.ofL
theorem Bal.add {ws c : List Int} (h : Bal ws c) {p : Nat} (hp : Next ws c p) : Bal ws (c.set p (gv c p + 1)) := by
  obtain ⟨p1, p2, p3⟩ := hp
  have hl := h.len
  have g := fun i => gv_set (l := c) (i := i) (v := gv c p + 1) (show p < c.length by omega)
  refine ⟨by rw [List.length_set]; exact hl, fun i => ?_, fun i hi => ?_, fun i j hi hj hij wi wj hc => ?_⟩
  · rw [g]
    have := h.c0 i
    have := h.c0 p
    split <;> omega
  · rw [g, if_neg (fun e => by rw [e] at hi; omega)]
    exact h.no i hi
  · rw [g, g]
    rw [g] at hc
    by_cases ei : i = p
    · subst ei
      rw [if_pos rfl, if_neg (fun e => hij e.symm), show gv c i + 1 - 1 = gv c i by omega]
      exact p3 j hj wj (fun e => hij e.symm)
    · rw [if_neg ei] at hc ⊢
      by_cases ej : j = p
      · subst ej
        rw [if_pos rfl]
        have := h.ord i j hi hj hij wi wj hc
        unfold Ahead at this ⊢
        have e : (2 * (gv c j + 1) + 1) * gv ws i = (2 * gv c j + 1) * gv ws i + 2 * gv ws i := by rw [show 2 * (gv c j + 1) + 1 = (2 * gv c j + 1) + 2 by omega, Int.add_mul]
        left
        omega
      · rw [if_neg ej]
        exact h.ord i j hi hj hij wi wj hc
theorem Bal.sub {ws c : List Int} (h : Bal ws c) {p : Nat} (hp : Last ws c p) : Bal ws (c.set p (gv c p - 1)) := by
  obtain ⟨p1, p2, p0, p3⟩ := hp
  have hl := h.len
  have g := fun i => gv_set (l := c) (i := i) (v := gv c p - 1) (show p < c.length by omega)
  refine ⟨by rw [List.length_set]; exact hl, fun i => ?_, fun i hi => ?_, fun i j hi hj hij wi wj hc => ?_⟩
  · rw [g]
    have := h.c0 i
    split <;> omega
  · rw [g, if_neg (fun e => by rw [e] at hi; omega)]
    exact h.no i hi
  · rw [g, g]
    rw [g] at hc
    by_cases ei : i = p
    · subst ei
      rw [if_pos rfl] at hc
      rw [if_pos rfl, if_neg (fun e => hij e.symm)]
      have := h.ord i j hi hj hij wi wj p0
      unfold Ahead at this ⊢
      have e : (2 * (gv c i - 1) + 1) * gv ws j = (2 * (gv c i - 1 - 1) + 1) * gv ws j + 2 * gv ws j := by rw [show 2 * (gv c i - 1) + 1 = (2 * (gv c i - 1 - 1) + 1) + 2 by omega, Int.add_mul]
      left
      omega
    · rw [if_neg ei] at hc ⊢
      by_cases ej : j = p
      · subst ej
        rw [if_pos rfl]
        exact p3 i hi wi hc hij
      · rw [if_neg ej]
        exact h.ord i j hi hj hij wi wj hc
/-- rounded parts -/
def rnd (n t w : Int) : Int := (2 * n * w / t + 1) / 2
theorem rnd_in {n t w : Int} (n0 : 0 ≤ n) (t0 : 0 < t) (w0 : 0 ≤ w) : 0 ≤ rnd n t w ∧ (0 < rnd n t w → (2 * (rnd n t w - 1) + 1) * t ≤ 2 * n * w) ∧ 2 * n * w < (2 * rnd n t w + 1) * t := by
  unfold rnd
  have x0 : 0 ≤ 2 * n * w := Int.mul_nonneg (by omega) w0
  have d0 : 0 ≤ 2 * n * w / t := Int.ediv_nonneg x0 (by omega)
  have d1 : 2 * n * w / t * t ≤ 2 * n * w := Int.ediv_mul_le _ (by omega)
  have d2 : 2 * n * w < (2 * n * w / t + 1) * t := Int.lt_ediv_add_one_mul_self _ t0
  generalize 2 * n * w / t = q at *
  refine ⟨by omega, fun h => ?_, ?_⟩
  · have : (2 * ((q + 1) / 2 - 1) + 1) * t ≤ q * t := Int.mul_le_mul_of_nonneg_right (by omega) (by omega)
    omega
  · have : (q + 1) * t ≤ (2 * ((q + 1) / 2) + 1) * t := Int.mul_le_mul_of_nonneg_right (by omega) (by omega)
    omega
theorem gv_map {l : List Int} {f : Int → Int} (i : Nat) (h : i < l.length) : gv (l.map f) i = f (gv l i) := gv_get (by rw [List.getElem?_map, gv_in h]; rfl)
theorem bal_rnd {ws : List Int} (w : WOk ws) {n : Int} (n0 : 0 ≤ n) : Bal ws (ws.map (rnd n ws.sum)) := by
  have t0 := w.sum.1
  generalize ws.sum = t at t0
  refine ⟨by simp, fun i => ?_, fun i hi => ?_, fun i j hi hj hij wi wj hc => ?_⟩
  · by_cases hi : i < ws.length
    · rw [gv_map i hi]
      exact (rnd_in n0 t0 (w.g i).1).1
    · rw [gv_out (by simp; omega)]
      exact Int.le_refl _
  · by_cases hl : i < ws.length
    · rw [gv_map i hl, hi]
      unfold rnd
      rw [Int.mul_zero, Int.zero_ediv]
      rfl
    · rw [gv_out (by simp; omega)]
  · rw [gv_map i hi] at hc ⊢
    rw [gv_map j hj]
    obtain ⟨_, a1, _⟩ := rnd_in n0 t0 (Int.le_of_lt wi)
    obtain ⟨_, _, b1⟩ := rnd_in n0 t0 (Int.le_of_lt wj)
    have a1 := a1 hc
    left
    generalize rnd n t (gv ws i) = x at *
    generalize rnd n t (gv ws j) = y at *
    generalize gv ws i = u at *
    generalize gv ws j = v at *
    have e1 : (2 * (x - 1) + 1) * t * v ≤ 2 * n * u * v := Int.mul_le_mul_of_nonneg_right a1 (by omega)
    have e2 : 2 * n * v * u < (2 * y + 1) * t * u := Int.mul_lt_mul_of_pos_right b1 wi
    have e3 : 2 * n * u * v = 2 * n * v * u := Int.mul_right_comm _ _ _
    have e4 : (2 * (x - 1) + 1) * t * v = (2 * (x - 1) + 1) * v * t := Int.mul_right_comm _ _ _
    have e5 : (2 * y + 1) * t * u = (2 * y + 1) * u * t := Int.mul_right_comm _ _ _
    have : (2 * (x - 1) + 1) * v * t < (2 * y + 1) * u * t := by omega
    exact Int.lt_of_mul_lt_mul_right this (by omega)
theorem rnd_le {ws : List Int} (w : WOk ws) {n : Int} (n0 : 0 ≤ n) (i : Nat) : gv (ws.map (rnd n ws.sum)) i ≤ n + 1 := by
  by_cases hi : i < ws.length
  · rw [gv_map i hi]
    have t0 := w.sum.1
    have h0 : ∀ w ∈ ws, 0 ≤ w := fun x hx => (w.r x hx).1
    have hle := le_sum h0 _ (gv_mem hi)
    unfold rnd
    have : 2 * n * gv ws i ≤ 2 * n * ws.sum := Int.mul_le_mul_of_nonneg_left hle (by omega)
    have : 2 * n * gv ws i / ws.sum ≤ 2 * n := Int.ediv_le_of_le_mul t0 this
    omega
  · rw [gv_out (by simp; omega)]
    omega
abbrev wD (ws : List Int) : PyData := .tuple (ws.map .int)
/-- a datum read by place as whole numbers -/
structure RdAt (D : PyData) (c : List Int) : Prop where
  ix : ∀ (i : Nat), i < c.length → ∀ P : PyData → Prop, oIx D (.int i) P = P (.int (gv c i))
theorem reads_tup (c : List Int) : RdAt (.tuple (c.map .int)) c := ⟨fun i h P => by rw [q_ix]; exact pick_int h⟩
theorem reads_lst (c : List Int) : RdAt (.list (c.map .int)) c := ⟨fun i h P => by rw [q_ixL]; exact pick_int h⟩
theorem cnt_sz {k : Int} (h0 : -10 ≤ k) (h1 : k ≤ 10 ^ 40) : Sz (2 * k + 1) := sz_of (by omega) (by omega)
theorem stands_ahead_q {ws : List Int} (w : WOk ws) {i j : Nat} {k l : Int} (hi : i < ws.length) (hj : j < ws.length) (k0 : -10 ≤ k) (k1 : k ≤ 10 ^ 40) (l0 : -10 ≤ l) (l1 : l ≤ 10 ^ 40) (K : PyData → Prop) (h : K (.bool (decide (Ahead ws i k j l)))) :
    q_stands_ahead (wD ws) (.tuple [.int i, .int k]) (.tuple [.int j, .int l]) K := by
  unfold q_stands_ahead
  have sk : Sz k := sz_of (by omega) (by omega)
  have sl : Sz l := sz_of (by omega) (by omega)
  have z2 : Sz 2 := sz_of (by decide) (by decide)
  have s1 := cnt_sz k0 k1
  have s2 := cnt_sz l0 l1
  have wi := w.g i
  have wj := w.g j
  have s3 : Sz (gv ws i) := sz_of (by omega) (by omega)
  have s4 : Sz (gv ws j) := sz_of (by omega) (by omega)
  walk_at "q"
  simp only [pick_int hi, pick_int hj]
  walk_at "q"
  refine ⟨⟨z2, sk⟩, ⟨s1, s4⟩, ⟨z2, sl⟩, ⟨s2, s3⟩, ?_⟩
  have e : decide (Ahead ws i k j l) = (decide ((2 * k + 1) * gv ws j < (2 * l + 1) * gv ws i) || (decide ((2 * k + 1) * gv ws j = (2 * l + 1) * gv ws i) && decide ((i : Int) < (j : Int)))) := by
    rw [Bool.eq_iff_iff]
    simp only [decide_eq_true_eq, Bool.or_eq_true, Bool.and_eq_true]
    unfold Ahead
    omega
  rwa [e] at h
def posD (d : PyData) : Option PyData := match d with
  | .tuple [.int p, .int w] => if 0 < w then some (.int p) else none
  | _ => none
theorem parts_list : ∀ (ws : List Int) (m : Nat), ∃ ps : List Nat, (enumD m (ws.map .int)).filterMap posD = ps.map (fun i : Nat => .int (i : Int)) ∧ ∀ i, i ∈ ps ↔ m ≤ i ∧ i - m < ws.length ∧ 0 < gv ws (i - m)
  | [], m => ⟨[], rfl, fun i => by simp⟩
  | w :: ws, m => by
    obtain ⟨ps, e, hm⟩ := parts_list ws (m + 1)
    have back : ∀ i, m + 1 ≤ i → gv (w :: ws) (i - m) = gv ws (i - (m + 1)) := fun i h => by
      rw [show i - m = (i - (m + 1)) + 1 by omega]
      rfl
    have z : gv (w :: ws) 0 = w := rfl
    have step : (enumD m ((w :: ws).map .int)).filterMap posD = (if 0 < w then [PyData.int (m : Int)] else []) ++ ps.map (fun i : Nat => .int (i : Int)) := by
      rw [List.map_cons, enumD, List.filterMap_cons, e]
      by_cases h : 0 < w
      · simp [posD, h]
      · simp [posD, h]
    by_cases h : 0 < w
    · refine ⟨m :: ps, by rw [step, if_pos h]; rfl, fun i => ?_⟩
      rw [List.mem_cons, hm, List.length_cons]
      constructor
      · rintro (rfl | ⟨h1, h2, h3⟩)
        · rw [Nat.sub_self]
          exact ⟨Nat.le_refl _, by omega, h⟩
        · rw [back i h1]
          exact ⟨by omega, by omega, h3⟩
      · rintro ⟨h1, h2, h3⟩
        by_cases e : i = m
        · exact .inl e
        · rw [back i (by omega)] at h3
          exact .inr ⟨by omega, by omega, h3⟩
    · refine ⟨ps, by rw [step, if_neg h]; rfl, fun i => ?_⟩
      rw [hm, List.length_cons]
      constructor
      · rintro ⟨h1, h2, h3⟩
        rw [back i h1]
        exact ⟨by omega, by omega, h3⟩
      · rintro ⟨h1, h2, h3⟩
        by_cases e : i = m
        · rw [e, Nat.sub_self, z] at h3
          omega
        · rw [back i (by omega)] at h3
          exact ⟨by omega, by omega, h3⟩
theorem parts_of_q {ws : List Int} (w : WOk ws) (K : PyData → Prop) (h : ∀ ps : List Nat, (∀ i, i ∈ ps ↔ i < ws.length ∧ 0 < gv ws i) → K (.list (ps.map fun i : Nat => .int (i : Int)))) : q_parts_of (wD ws) K := by
  unfold q_parts_of
  walk_at "q"
  obtain ⟨ps, e, hm⟩ := parts_list ws 0
  refine qLc_fmap posD (by rw [enumD_length, List.length_map]; have := w.n1; omega) (fun d hd sk yd hy hs => ?_) ?_
  · obtain ⟨k, hk⟩ := List.mem_iff_getElem?.mp hd
    obtain ⟨x, hx, rfl⟩ := enumD_get hk
    rw [List.getElem?_map] at hx
    obtain ⟨v, hv, rfl⟩ := Option.map_eq_some_iff.mp hx
    unfold qb_parts_of_1
    walk_at "q"
    refine bIf_d (fun z => hy _ (by simp [posD, z])) fun z => hs (by simp [posD, z])
  · rw [e]
    exact h ps fun i => by simpa using hm i
theorem next_part_q {ws c : List Int} (w : WOk ws) {D : PyData} (hl : c.length = ws.length) (hD : RdAt D c) (hc : ∀ i, 0 ≤ gv c i ∧ gv c i ≤ 10 ^ 40) (K : PyData → Prop) (h : ∀ p : Nat, Next ws c p → K (.int (p : Int))) : q_next_part (wD ws) D K := by
  unfold q_next_part
  refine parts_of_q w _ fun ps hps => ?_
  walk_at "q"
  refine qFor_ind (fun k s => (k = 0 ∧ s = .none) ∨ ∃ f : Nat, s = .int (f : Int) ∧ f ∈ ps ∧ ∀ j ∈ ps.take k, j = f ∨ Ahead ws f (gv c f) j (gv c j)) (.inl ⟨rfl, rfl⟩) (fun k d s nx hd hi hnx => ?_) fun s hi => ?_
  · obtain ⟨p, hp, rfl⟩ : ∃ p : Nat, ps[k]? = some p ∧ d = .int (p : Int) := by
      rw [List.getElem?_map] at hd
      obtain ⟨p, h1, h2⟩ := Option.map_eq_some_iff.mp hd
      exact ⟨p, h1, h2.symm⟩
    have mp := List.mem_of_getElem? hp
    obtain ⟨p1, p2⟩ := (hps p).mp mp
    have tk : ps.take (k + 1) = ps.take k ++ [p] := by rw [List.take_add_one, hp]; rfl
    unfold qb_next_part_1
    rcases hi with ⟨rfl, rfl⟩ | ⟨f, rfl, mf, hf⟩
    · walk_at "q"
      exact hnx _ (.inr ⟨p, rfl, mp, fun j hj => by rw [tk] at hj; simp at hj; exact .inl hj⟩)
    · obtain ⟨f1, f2⟩ := (hps f).mp mf
      walk_at "q"
      rw [hD.ix p (by omega), hD.ix f (by omega)]
      refine stands_ahead_q w p1 f1 (by have := hc p; omega) (hc p).2 (by have := hc f; omega) (hc f).2 _ ?_
      walk_at "q"
      refine bIf_d (fun a => hnx _ (.inr ⟨p, rfl, mp, fun j hj => ?_⟩)) fun a => hnx _ (.inr ⟨f, rfl, mf, fun j hj => ?_⟩)
      · rw [tk, List.mem_append, List.mem_singleton] at hj
        rcases hj with hj | hj
        · rcases hf j hj with rfl | b
          · exact .inr a
          · exact .inr (ahead_trans f2 p2 ((hps j).mp (List.mem_of_mem_take hj)).2 a b)
        · exact .inl hj
      · rw [tk, List.mem_append, List.mem_singleton] at hj
        rcases hj with hj | rfl
        · exact hf j hj
        · by_cases e : j = f
          · exact .inl e
          · exact .inr ((ahead_total e).resolve_left a)
  · rw [List.length_map, List.take_length] at hi
    rcases hi with ⟨h0, rfl⟩ | ⟨f, rfl, mf, hf⟩
    · exfalso
      obtain ⟨i, hi1, hi2⟩ := w.some
      have := (hps i).mpr ⟨hi1, hi2⟩
      rw [List.eq_nil_of_length_eq_zero h0] at this
      simp at this
    · obtain ⟨f1, f2⟩ := (hps f).mp mf
      exact h f ⟨f1, f2, fun j j1 j2 jn => (hf j ((hps j).mpr ⟨j1, j2⟩)).resolve_left jn⟩
theorem last_part_q {ws c : List Int} (w : WOk ws) {D : PyData} (hl : c.length = ws.length) (hD : RdAt D c) (hc : ∀ i, 0 ≤ gv c i ∧ gv c i ≤ 10 ^ 40) (K : PyData → Prop) (h : ∀ p : Nat, Last ws c p → K (.int (p : Int)))
    (h0 : (∀ i, i < ws.length → 0 < gv ws i → gv c i = 0) → K .none) : q_last_part (wD ws) D K := by
  unfold q_last_part
  refine parts_of_q w _ fun ps hps => ?_
  walk_at "q"
  refine qFor_ind (fun k s => (s = .none ∧ ∀ j ∈ ps.take k, gv c j = 0) ∨ ∃ f : Nat, s = .int (f : Int) ∧ f ∈ ps ∧ 0 < gv c f ∧ ∀ j ∈ ps.take k, 0 < gv c j → j = f ∨ Ahead ws j (gv c j - 1) f (gv c f - 1)) (.inl ⟨rfl, fun j z => by simp at z⟩) (fun k d s nx hd hi hnx => ?_) fun s hi => ?_
  · obtain ⟨p, hp, rfl⟩ : ∃ p : Nat, ps[k]? = some p ∧ d = .int (p : Int) := by
      rw [List.getElem?_map] at hd
      obtain ⟨p, h1, h2⟩ := Option.map_eq_some_iff.mp hd
      exact ⟨p, h1, h2.symm⟩
    have mp := List.mem_of_getElem? hp
    obtain ⟨p1, p2⟩ := (hps p).mp mp
    have tk : ps.take (k + 1) = ps.take k ++ [p] := by rw [List.take_add_one, hp]; rfl
    unfold qb_last_part_1
    walk_at "q"
    rw [hD.ix p (by omega)]
    walk_at "q"
    have cp := hc p
    refine bIf_d (fun hp0 => ?_) fun hp0 => ?_
    · rcases hi with ⟨rfl, hz⟩ | ⟨f, rfl, mf, cf, hf⟩
      · walk_at "q"
        refine hnx _ (.inr ⟨p, rfl, mp, hp0, fun j hj j0 => ?_⟩)
        rw [tk, List.mem_append, List.mem_singleton] at hj
        rcases hj with hj | hj
        · have := hz j hj
          omega
        · exact .inl hj
      · obtain ⟨f1, f2⟩ := (hps f).mp mf
        have cf2 := hc f
        walk_at "q"
        rw [hD.ix f (by omega)]
        walk_at "q"
        rw [hD.ix p (by omega)]
        walk_at "q"
        refine stands_ahead_q w f1 p1 (by omega) (by omega) (by omega) (by omega) _ ?_
        walk_at "q"
        refine bIf_d (fun a => hnx _ (.inr ⟨p, rfl, mp, hp0, fun j hj j0 => ?_⟩)) fun a => hnx _ (.inr ⟨f, rfl, mf, cf, fun j hj j0 => ?_⟩)
        · rw [tk, List.mem_append, List.mem_singleton] at hj
          rcases hj with hj | hj
          · rcases hf j hj j0 with rfl | b
            · exact .inr a
            · exact .inr (ahead_trans f2 ((hps j).mp (List.mem_of_mem_take hj)).2 p2 b a)
          · exact .inl hj
        · rw [tk, List.mem_append, List.mem_singleton] at hj
          rcases hj with hj | rfl
          · exact hf j hj j0
          · by_cases e : j = f
            · exact .inl e
            · exact .inr ((ahead_total (fun z => e z.symm)).resolve_left a)
    · refine hnx _ ?_
      rcases hi with ⟨rfl, hz⟩ | ⟨f, rfl, mf, cf, hf⟩
      · refine .inl ⟨rfl, fun j hj => ?_⟩
        rw [tk, List.mem_append, List.mem_singleton] at hj
        rcases hj with hj | rfl
        · exact hz j hj
        · omega
      · refine .inr ⟨f, rfl, mf, cf, fun j hj j0 => ?_⟩
        rw [tk, List.mem_append, List.mem_singleton] at hj
        rcases hj with hj | rfl
        · exact hf j hj j0
        · omega
  · rw [List.length_map, List.take_length] at hi
    rcases hi with ⟨rfl, hz⟩ | ⟨f, rfl, mf, cf, hf⟩
    · exact h0 fun i h1 h2 => hz i ((hps i).mpr ⟨h1, h2⟩)
    · obtain ⟨f1, f2⟩ := (hps f).mp mf
      exact h f ⟨f1, f2, cf, fun j j1 j2 j0 jn => (hf j ((hps j).mpr ⟨j1, j2⟩) j0).resolve_left jn⟩
theorem set_int {c : List Int} {p : Nat} {v : Int} : (c.map PyData.int).set p (.int v) = (c.set p v).map .int := (List.map_set ..).symm
theorem first_counts_q {ws : List Int} (w : WOk ws) {n : Int} (n0 : 0 ≤ n) (n1 : n ≤ 10 ^ 30) (K : PyData → Prop) (h : ∀ c, Bal ws c → c.sum = n → K (.tuple (c.map .int))) : q_first_counts (wD ws) (.int n) K := by
  unfold q_first_counts
  have t := w.sum
  have z2 : Sz 2 := sz_of (by decide) (by decide)
  have zn : Sz n := sz_of (by omega) (by omega)
  have z2n : Sz (2 * n) := sz_of (by omega) (by omega)
  have zt : Sz ws.sum := sz_of (by omega) (by omega)
  walk_at "q"
  refine qLc_map (fun d : PyData => (match d with | .int x => .int (rnd n ws.sum x) | _ => .none : PyData)) (by rw [List.length_map]; have := w.n1; omega) (fun d hd sk yd hy => ?_) ?_
  · obtain ⟨x, hx, rfl⟩ := List.mem_map.mp hd
    have x1 := w.r x hx
    unfold qb_first_counts_1
    walk_at "q"
    refine ⟨⟨z2, zn⟩, ⟨z2n, sz_of (by omega) (by omega)⟩, ⟨t.1, zt⟩, ⟨by decide, z2⟩, hy⟩
  · have e : (ws.map PyData.int).map (fun d : PyData => (match d with | .int x => .int (rnd n ws.sum x) | _ => .none : PyData)) = (ws.map (rnd n ws.sum)).map .int := by
      rw [List.map_map, List.map_map]
      rfl
    rw [e]
    refine qWhile_ind (m := (n - (ws.map (rnd n ws.sum)).sum).toNat) (fun m s => ∃ c : List Int, s = c.map .int ∧ Bal ws c ∧ (∀ i, gv c i ≤ n + 1) ∧ (n - c.sum).toNat = m) ⟨_, rfl, bal_rnd w n0, rnd_le w n0, rfl⟩ ?_
    rintro m s nx ⟨c, rfl, hb, hc, hm⟩ hn
    unfold qb_first_counts_2
    walk_at "q"
    refine bIf_d (fun lt => ?_) fun ge => ?_
    · refine next_part_q w hb.len (reads_lst c) (fun i => ⟨hb.c0 i, by have := hc i; omega⟩) _ fun p hp => ?_
      have hpl : p < c.length := by rw [hb.len]; exact hp.1
      walk_at "q"
      rw [pick_int hpl]
      walk_at "q"
      refine st_in (by omega) (by simpa using hpl) ?_
      rw [Int.toNat_natCast, set_int]
      have hs := sum_set (l := c) (v := gv c p + 1) hpl
      refine hn (n - (c.set p (gv c p + 1)).sum).toNat _ ?_ ⟨_, rfl, hb.add hp, fun i => ?_, rfl⟩
      · rw [hs]
        omega
      · rw [gv_set hpl]
        have := hb.le p
        have := hc i
        split <;> omega
    · refine qWhile_ind (m := (c.sum - n).toNat) (fun (m : Nat) (s : List PyData) => ∃ c : List Int, s = c.map PyData.int ∧ Bal ws c ∧ (∀ i, gv c i ≤ n + 1) ∧ n ≤ c.sum ∧ (c.sum - n).toNat = m) ⟨c, rfl, hb, hc, by omega, rfl⟩ ?_
      clear ge hm hn hc hb
      rintro m s nx2 ⟨c, rfl, hb, hc, hge, hm⟩ hn2
      unfold qb_first_counts_3
      walk_at "q"
      refine bIf_d (fun lt => ?_) fun ge => ?_
      · refine last_part_q w hb.len (reads_lst c) (fun i => ⟨hb.c0 i, by have := hc i; omega⟩) _ (fun p hp => ?_) fun hz => ?_
        · have hpl : p < c.length := by rw [hb.len]; exact hp.1
          walk_at "q"
          rw [pick_int hpl]
          walk_at "q"
          refine st_in (by omega) (by simpa using hpl) ?_
          rw [Int.toNat_natCast, set_int]
          have hs := sum_set (l := c) (v := gv c p - 1) hpl
          have := hp.2.2.1
          refine hn2 ((c.set p (gv c p - 1)).sum - n).toNat _ ?_ ⟨_, rfl, hb.sub hp, fun i => ?_, ?_, rfl⟩
          · rw [hs]
            omega
          · rw [gv_set hpl]
            have := hc i
            have := hc p
            split <;> omega
          · rw [hs]
            omega
        · exfalso
          obtain ⟨i, h1, h2⟩ := sum_pos (l := c) (by omega)
          have hi : i < ws.length := by rw [← hb.len]; exact h1
          have := (w.g i).1
          by_cases e : gv ws i = 0
          · have := hb.no i e
            omega
          · have := hz i hi (by omega)
            omega
      · exact h c hb (by omega)
theorem ahead_of_q {ws : List Int} (w : WOk ws) {i j : Nat} {k : Int} (hi : i < ws.length) (hj : j < ws.length) (hij : j ≠ i) (wi : 0 < gv ws i) (k0 : 0 ≤ k) (k1 : k ≤ 10 ^ 40) (K : PyData → Prop)
    (h : ∀ m : Int, 0 ≤ m → (gv ws j = 0 → m = 0) → (0 < gv ws j → (∀ l : Int, 0 ≤ l → (l < m ↔ Ahead ws j l i k))) → K (.int m)) : q_ahead_of (wD ws) (.int i) (.int k) (.int j) K := by
  unfold q_ahead_of
  have z2 : Sz 2 := sz_of (by decide) (by decide)
  have sk : Sz k := sz_of (by omega) (by omega)
  have s1 := cnt_sz (k := k) (by omega) k1
  have gi := w.g i
  have gj := w.g j
  have si : Sz (gv ws i) := sz_of (by omega) (by omega)
  have sj : Sz (gv ws j) := sz_of (by omega) (by omega)
  have R0 : 0 ≤ (2 * k + 1) * gv ws j := Int.mul_nonneg (by omega) gj.1
  have R1 : 0 < gv ws j → 0 < (2 * k + 1) * gv ws j := fun z => Int.mul_pos (by omega) z
  have R2 : gv ws j = 0 → (2 * k + 1) * gv ws j = 0 := fun z => by rw [z, Int.mul_zero]
  walk_at "q"
  simp only [pick_int hj, pick_int hi]
  walk_at "go"
  have fin : ∀ r : Int, -1 ≤ r → (gv ws j = 0 → r ≤ 0) → (0 < gv ws j → 0 ≤ r ∧ ∀ l : Int, 0 ≤ l → ((2 * l + 1) * gv ws i ≤ r ↔ Ahead ws j l i k)) →
      bIf (decide (r < 0)) (K (.int 0)) ((0 < gv ws i ∧ Sz (gv ws i)) ∧ (0 < (2 : Int) ∧ Sz 2) ∧ K (.int ((r / gv ws i + 1) / 2))) := fun r r0 r1 r2 => by
    refine bIf_d (fun z => ?_) fun z => ?_
    · refine h 0 (by omega) (fun _ => rfl) fun z2 => ?_
      have := (r2 z2).1
      omega
    · refine ⟨⟨wi, si⟩, ⟨by decide, z2⟩, h _ ?_ (fun e => ?_) fun z2 l l0 => ?_⟩
      · have := Int.ediv_nonneg (a := r) (b := gv ws i) (by omega) (by omega)
        omega
      · have := r1 e
        have : r = 0 := by omega
        subst this
        rw [Int.zero_ediv]
        rfl
      · rw [← (r2 z2).2 l l0]
        have : 2 * l + 1 ≤ r / gv ws i ↔ (2 * l + 1) * gv ws i ≤ r := Int.le_ediv_iff_mul_le wi
        rw [← this]
        omega
  refine bIf_d (fun e => ?_) fun e => ?_
  · refine fin _ (by omega) (fun z => by have := R2 z; omega) fun z => ⟨by have := R1 z; omega, fun l l0 => ?_⟩
    unfold Ahead
    have : ¬ j < i := by omega
    constructor
    · intro z
      left
      omega
    · rintro (z | ⟨_, z⟩)
      · omega
      · exact absurd z this
  · refine fin _ (by omega) (fun z => by have := R2 z; omega) fun z => ⟨by have := R1 z; omega, fun l l0 => ?_⟩
    unfold Ahead
    have : j < i := by omega
    constructor
    · intro z
      by_cases y : (2 * l + 1) * gv ws i < (2 * k + 1) * gv ws j
      · exact .inl y
      · exact .inr ⟨by omega, this⟩
    · rintro (z | ⟨z, _⟩) <;> omega
def StockOk (n : Int) (xs : List PyData) : Prop := ∃ g s t : Int, xs = [.int g, .int s, .int t] ∧ 0 ≤ s ∧ s < 2147483629 ∧ 0 ≤ t ∧ t ≤ n
theorem StockOk.mono {n m : Int} {xs : List PyData} (h : StockOk n xs) (e : n ≤ m) : StockOk m xs := by
  obtain ⟨g, s, t, h1, h2, h3, h4, h5⟩ := h
  exact ⟨g, s, t, h1, h2, h3, h4, by omega⟩
theorem law_stock_q (ns : List Int) (k : Int) (k0 : 0 ≤ k) (k1 : k ≤ 1000) (K : List PyData → Prop) (h : ∀ xs, StockOk 0 xs → K xs) : q_law_stock (.list (ns.map .int)) (.int k) K := by
  unfold q_law_stock
  walk_at "q"
  have z := sz_of (i := 10) (by decide) (by decide)
  refine ⟨by walk_at "side", ?_⟩
  have fin : ∀ c g : Int, K [.int g, .int (c % 2147483629), .int 0] := fun c g => h _ ⟨_, _, _, rfl, Int.emod_nonneg _ (by decide), Int.emod_lt_of_pos _ (by decide), by decide, by decide⟩
  have fin2 : ∀ c : Int, ((Sz 10 ∧ 0 ≤ (18 : Int) ∧ (18 : Int) ≤ 10000) ∧ bIf (decide ((10 : Int) ^ Int.toNat 18 ≤ if c < 0 then -c else c)) ((0 : Int) < 2147483629 ∧ K [.int (if c < 0 then -c else c), .int (c % 2147483629), .int 0]) ((0 : Int) < 2147483629 ∧ K [.int 0, .int (c % 2147483629), .int 0])) := fun c =>
    ⟨⟨z, by decide, by decide⟩, bIf_d (fun _ => ⟨by decide, fin _ _⟩) fun _ => ⟨by decide, fin _ _⟩⟩
  refine bIf_d (fun hk => ?_) fun hk => fin2 _
  refine pick_mem k0 (by simpa using hk) fun d mem => ?_
  obtain ⟨c, _, rfl⟩ := List.mem_map.mp mem
  exact fin2 c
theorem stock_take_q {n m : Int} {xs : List PyData} (hp : StockOk n xs) (hn : n ≤ 10 ^ 6) (m0 : 0 < m) (m1 : m ≤ 10 ^ 50) (K : PyData → List PyData → Prop) (h : ∀ r xs', 0 ≤ r → r < m → StockOk (n + 1) xs' → K (.int r) xs') : q_law_take xs (.int m) K := by
  obtain ⟨g, s, t, rfl, s0, s1, t0, t1⟩ := hp
  unfold q_law_take
  walk_at "q"
  refine bIf_d (fun h0 => ?_) fun h0 => ?_
  · walk_at "sides"
    exact h _ _ (Int.emod_nonneg _ (by omega)) (Int.emod_lt_of_pos _ m0) ⟨_, s, _, rfl, s0, s1, by omega, by omega⟩
  · walk_at "sides"
    refine pick_mem (Int.emod_nonneg _ (by decide)) (by have := Int.emod_lt_of_pos (t + 1) (by decide : (0 : Int) < 5); simpa using this) fun d hd => ?_
    obtain ⟨p, rfl, p0, p1⟩ : ∃ p : Int, d = .int p ∧ 0 < p ∧ p ≤ 2147483647 := by
      rcases mem5 hd with rfl | rfl | rfl | rfl | rfl <;> exact ⟨_, rfl, by decide, by decide⟩
    have q1 : 7919 * (t + 1) * (t + 1) ≤ 7919 * (10 ^ 6 + 1) * (10 ^ 6 + 1) := Int.mul_le_mul (by omega) (by omega) (by omega) (by decide)
    have q0 : 0 ≤ 7919 * (t + 1) * (t + 1) := Int.mul_nonneg (by omega) (by omega)
    walk_at "q"
    generalize 7919 * (t + 1) * (t + 1) = B at q0 q1 ⊢
    have b0 := Int.emod_nonneg ((s + B + 104729 * (t + 1) + 13) ^ Int.toNat 3) (by omega : p ≠ 0)
    have b1 := Int.emod_lt_of_pos ((s + B + 104729 * (t + 1) + 13) ^ Int.toNat 3) p0
    generalize (s + B + 104729 * (t + 1) + 13) ^ Int.toNat 3 % p = A at b0 b1 ⊢
    have c0 := Int.emod_nonneg (A * A + 40487 * (t + 1) + 7) (by decide : (2147483497 : Int) ≠ 0)
    have c1 := Int.emod_lt_of_pos (A * A + 40487 * (t + 1) + 7) (by decide : (0 : Int) < 2147483497)
    generalize (A * A + 40487 * (t + 1) + 7) % 2147483497 = C at c0 c1 ⊢
    walk_at "go"
    exact h _ _ (Int.emod_nonneg _ (by omega)) (Int.emod_lt_of_pos _ m0) ⟨g, s, t + 1, rfl, s0, s1, by omega, by omega⟩
theorem q_maxLI {ns : List Int} {P : PyData → Prop} : nMaxL [.list (ns.map .int)] P = (0 < ns.length ∧ ∀ m, m ∈ ns → (∀ a ∈ ns, a ≤ m) → P (.int m)) := by
  show maxQ (intsD (ns.map .int)) P = _
  rw [DL.ints_map]
  rfl
theorem q_maxTI {ns : List Int} {P : PyData → Prop} : nMaxL [.tuple (ns.map .int)] P = (0 < ns.length ∧ ∀ m, m ∈ ns → (∀ a ∈ ns, a ≤ m) → P (.int m)) := q_maxLI
theorem law_weights_q {n : Int} {xs : List PyData} (hp : StockOk n xs) (hn : n ≤ 10 ^ 5) {m : Int} (m0 : 1 ≤ m) (m1 : m ≤ 60) (K : PyData → List PyData → Prop) (h : ∀ ws xs', WOk ws → ws.length ≤ m.toNat → StockOk (n + 70) xs' → K (wD ws) xs') : q_law_weights xs (.int m) K := by
  unfold q_law_weights
  have z := sz_of (i := 10) (by decide) (by decide)
  have e6 : (10 : Int) ^ Int.toNat 6 = 1000000 := by decide
  refine stock_take_q hp (by omega) (by decide) (by decide) _ fun sort xs s0 s1 hp => ?_
  refine stock_take_q hp (by omega) (by omega) (by omega) _ fun w xs w0 w1 hp => ?_
  walk_at "go"
  refine qFor_range (fun k s => ∃ (xs : List PyData) (ws : List Int), s = (xs, ws.map PyData.int) ∧ ws.length = k ∧ (∀ w ∈ ws, 0 ≤ w ∧ w ≤ 1000000) ∧ StockOk (n + 2 + k) xs) ⟨_, [], rfl, rfl, fun _ z => by simp at z, hp.mono (by omega)⟩ (fun k s nx hk ⟨xs, ws, e, hl, hw, hp⟩ hnx => ?_) fun s ⟨xs, ws, e, hl, hw, hp⟩ => ?_
  · subst e
    unfold qb_law_weights_1
    refine stock_take_q hp (by omega) (by decide) (by decide) _ fun dr xs d0 d1 hp => ?_
    have a0 := Int.emod_nonneg dr (by decide : (7 : Int) ≠ 0)
    have a1 := Int.emod_lt_of_pos dr (by decide : (0 : Int) < 7)
    have b0 := Int.emod_nonneg dr (by decide : (3 : Int) ≠ 0)
    have b1 := Int.emod_lt_of_pos dr (by decide : (0 : Int) < 3)
    walk_at "go"
    rw [e6]
    refine pick_mem b0 (by simpa using b1) fun d hd => ?_
    obtain ⟨u, rfl, u0, u1⟩ : ∃ u : Int, d = .int u ∧ 0 ≤ u ∧ u ≤ 1000000 := by
      rcases mem3 hd with rfl | rfl | rfl <;> exact ⟨_, rfl, by decide, by decide⟩
    clear hd
    walk_at "go"
    refine pick_mem b0 (by simpa using b1) fun d hd => ?_
    obtain ⟨v, rfl, v0, v1⟩ : ∃ u : Int, d = .int u ∧ 0 ≤ u ∧ u ≤ 1000000 := by
      rcases mem3 hd with rfl | rfl | rfl <;> exact ⟨_, rfl, by decide, by decide⟩
    clear hd
    walk_at "q"
    refine pick_mem s0 (by simpa using s1) fun d hd => ?_
    obtain ⟨y, rfl, y0, y1⟩ : ∃ u : Int, d = .int u ∧ 0 ≤ u ∧ u ≤ 1000000 := by
      rcases mem5 hd with rfl | rfl | rfl | rfl | rfl <;> exact ⟨_, rfl, by omega, by omega⟩
    clear hd
    walk_at "q"
    refine ⟨by omega, hnx _ ⟨xs, ws ++ [y], by simp, by simp [hl], fun w hm => ?_, hp.mono (by omega)⟩⟩
    rcases List.mem_append.mp hm with hm | hm
    · exact hw w hm
    · rw [List.mem_singleton.mp hm]
      exact ⟨y0, y1⟩
  · subst e
    dsimp only
    rw [q_maxLI]
    refine ⟨by omega, fun mx hm hmax => ?_⟩
    walk_at "q"
    refine bIf_d (fun e => ?_) fun e => ?_
    · obtain ⟨init, l, rfl⟩ : ∃ init l, ws = init ++ [l] := by
        have hne : ws ≠ [] := fun z => by rw [z] at hm; simp at hm
        exact ⟨_, _, (List.dropLast_concat_getLast hne).symm⟩
      have el : (init ++ [l]).map PyData.int = init.map .int ++ [.int l] := by simp
      rw [el]
      have st : ∀ (xs : List PyData) (d v : PyData) (K : List PyData → Prop), K (xs ++ [v]) → stQ (xs ++ [d]) (.int (-1)) v K := fun xs d v K hK => by
        show (match ixN (xs ++ [d]).length (-1) with | some j => K ((xs ++ [d]).set j v) | none => False)
        have : ixN (xs ++ [d]).length (-1) = some xs.length := by
          unfold ixN
          rw [if_neg (by decide), if_pos (by simp; omega)]
          simp
          omega
        rw [this]
        show K ((xs ++ [d]).set xs.length v)
        rw [List.set_append_right _ _ (Nat.le_refl _), Nat.sub_self]
        exact hK
      refine st _ _ _ _ ?_
      have e2 : init.map PyData.int ++ [.int 4] = (init ++ [4]).map .int := by simp
      rw [e2]
      refine h (init ++ [4]) xs ⟨by simp, by simp at hl ⊢; omega, fun w hw' => ?_, 4, by simp, by decide⟩ (by simp at hl ⊢; omega) (hp.mono (by omega))
      rcases List.mem_append.mp hw' with hw' | hw'
      · exact hw w (by simp [hw'])
      · rw [List.mem_singleton.mp hw']
        decide
    · refine h ws xs ⟨by omega, by omega, hw, mx, hm, ?_⟩ (by omega) (hp.mono (by omega))
      have := (hw mx hm).1
      omega
theorem from_ints : ∀ {ds : List PyData}, (ds.all fun d => isFrom d 0) = true → ∃ c : List Int, ds = c.map .int ∧ ∀ a ∈ c, 0 ≤ a
  | [], _ => ⟨[], rfl, fun _ h => by simp at h⟩
  | d :: ds, h => by
    rw [List.all_cons, Bool.and_eq_true] at h
    obtain ⟨c, rfl, hc⟩ := from_ints h.2
    cases d <;> simp only [isFrom, Bool.false_eq_true, false_and] at h
    rename_i i
    refine ⟨i :: c, rfl, fun a ha => ?_⟩
    rcases List.mem_cons.mp ha with rfl | ha
    · exact of_decide_eq_true h.1
    · exact hc a ha
def noneD (c : List Int) (d : PyData) : Option PyData := match d with
  | .tuple [.int p, .int w] => if w = 0 ∧ gv c p.toNat ≠ 0 then some (.int p) else none
  | _ => none
theorem has_none_q {ws c : List Int} (w : WOk ws) (hl : c.length = ws.length) (K : PyData → Prop) (h : K (.bool (decide (∀ i, i < ws.length → gv ws i = 0 → gv c i = 0)))) : q_has_none (wD ws) (.tuple (c.map .int)) K := by
  unfold q_has_none
  have n1 := w.n1
  walk_at "q"
  refine qLc_fmap (noneD c) (by rw [enumD_length, List.length_map]; omega) (fun d hd sk yd hy hs => ?_) ?_
  · obtain ⟨k, hk⟩ := List.mem_iff_getElem?.mp hd
    obtain ⟨x, hx, rfl⟩ := enumD_get hk
    rw [List.getElem?_map] at hx
    obtain ⟨v, hv, rfl⟩ := Option.map_eq_some_iff.mp hx
    have hkl : k < ws.length := (List.getElem?_eq_some_iff.mp hv).1
    have z : (((0 + k : Nat) : Int)) = (k : Int) := by omega
    rw [z] at hy hs ⊢
    unfold qb_has_none_1
    walk_at "q"
    simp only [pick_int (show k < c.length by omega)]
    walk_at "q"
    refine bIf_of (fun e => ?_) fun e => ?_
    · simp only [Bool.and_eq_true, decide_eq_true_eq, Bool.not_eq_true', decide_eq_false_iff_not] at e
      exact hy _ (by simp only [noneD, Int.toNat_natCast]; rw [if_pos e])
    · refine hs (by
        simp only [noneD, Int.toNat_natCast]
        rw [if_neg]
        intro t
        rw [decide_eq_true t.1, decide_eq_false t.2] at e
        cases e)
  · walk_at "q"
    have e : ((enumD 0 (ws.map .int)).filterMap (noneD c)).isEmpty = decide (∀ i, i < ws.length → gv ws i = 0 → gv c i = 0) := by
      rw [Bool.eq_iff_iff, List.isEmpty_iff, decide_eq_true_eq, List.filterMap_eq_nil_iff]
      constructor
      · intro hall i hi wi
        have hm : (enumD 0 (ws.map .int))[i]? = some (.tuple [.int ((0 + i : Nat) : Int), .int (gv ws i)]) := by
          have hlen : i < (enumD 0 (ws.map .int)).length := by rw [enumD_length, List.length_map]; exact hi
          obtain ⟨x, hx, e⟩ := enumD_get (List.getElem?_eq_getElem hlen)
          rw [List.getElem?_map, gv_in hi] at hx
          cases hx
          rw [List.getElem?_eq_getElem hlen, e]
        have := hall _ (List.mem_of_getElem? hm)
        simp only [noneD, Int.toNat_natCast, Nat.zero_add] at this
        rw [wi] at this
        by_cases z : gv c i = 0
        · exact z
        · rw [if_pos ⟨rfl, z⟩] at this
          cases this
      · intro hall d hd
        obtain ⟨k, hk⟩ := List.mem_iff_getElem?.mp hd
        obtain ⟨x, hx, rfl⟩ := enumD_get hk
        rw [List.getElem?_map] at hx
        obtain ⟨v, hv, rfl⟩ := Option.map_eq_some_iff.mp hx
        have hkl : k < ws.length := (List.getElem?_eq_some_iff.mp hv).1
        simp only [noneD, Int.toNat_natCast, Nat.zero_add]
        rw [if_neg]
        rintro ⟨t1, t2⟩
        exact t2 (hall k hkl (by rw [gv_get hv]; exact t1))
    rw [e]
    exact h
def isWt (d : PyData) : Bool := isIn d 0 1000000
theorem wt_ints : ∀ {ds : List PyData}, ds.all isWt = true → ∃ c : List Int, ds = c.map .int ∧ ∀ a ∈ c, 0 ≤ a ∧ a ≤ 1000000
  | [], _ => ⟨[], rfl, fun _ h => by simp at h⟩
  | d :: ds, h => by
    rw [List.all_cons, Bool.and_eq_true] at h
    obtain ⟨c, rfl, hc⟩ := wt_ints h.2
    cases d <;> simp only [isWt, isIn, Bool.false_eq_true, false_and] at h
    rename_i i
    refine ⟨i :: c, rfl, fun a ha => ?_⟩
    rcases List.mem_cons.mp ha with rfl | ha
    · have := h.1
      simp only [Bool.and_eq_true, decide_eq_true_eq] at this
      exact this
    · exact hc a ha
def wtPos : PyData → Bool
  | .int i => decide (0 < i)
  | _ => false
/-- what a look at weights tells -/
def areWt : PyData → Bool
  | .tuple ds => decide (1 ≤ ds.length ∧ ds.length ≤ 60) && (ds.all isWt && ds.any wtPos)
  | _ => false
theorem areWt_t (ds : List PyData) : areWt (.tuple ds) = (decide (1 ≤ ds.length ∧ ds.length ≤ 60) && (ds.all isWt && ds.any wtPos)) := rfl
theorem max_pos {c : List Int} {m : Int} (hm : m ∈ c) (hx : ∀ a ∈ c, a ≤ m) : decide (m > 0) = (c.map PyData.int).any wtPos := by
  rw [Bool.eq_iff_iff, decide_eq_true_eq, List.any_eq_true]
  constructor
  · intro h
    exact ⟨.int m, List.mem_map.mpr ⟨m, hm, rfl⟩, decide_eq_true h⟩
  · rintro ⟨x, hx1, hx2⟩
    obtain ⟨a, ha, rfl⟩ := List.mem_map.mp hx1
    have h1 : 0 < a := of_decide_eq_true hx2
    have := hx a ha
    omega
theorem short_len {n : Nat} : (decide ((1 : Int) ≤ (n : Int)) && decide ((n : Int) ≤ 60)) = decide (1 ≤ n ∧ n ≤ 60) := by
  rw [Bool.eq_iff_iff]
  simp only [Bool.and_eq_true, decide_eq_true_eq]
  omega
theorem are_wt_q (d : PyData) (K : PyData → Prop) (h : K (.bool (areWt d))) : q_are_weights d K := by
  unfold q_are_weights
  cases d with
  | tuple ds =>
    walk_at "q"
    by_cases hl : 1 ≤ ds.length ∧ ds.length ≤ 60
    · rw [decide_eq_true (show (1 : Int) ≤ ds.length by omega), decide_eq_true (show (ds.length : Int) ≤ 60 by omega)]
      walk_at "q"
      refine qLc_map (fun d => .bool (isWt d)) (by omega) (fun d hd sk yd hy => ?_) ?_
      · unfold qb_are_weights_1
        rw [is_within_q]
        exact hy
      · walk_at "q"
        cases ha : ds.all isWt with
        | false =>
          walk_at "q"
          have : areWt (.tuple ds) = false := by
            rw [areWt_t, ha, Bool.false_and, Bool.and_false]
          rwa [this] at h
        | true =>
          obtain ⟨c, rfl, hc⟩ := wt_ints ha
          walk_at "q"
          rw [q_maxTI]
          rw [List.length_map] at hl
          refine ⟨by omega, fun m hm hx => ?_⟩
          walk_at "q"
          have : areWt (.tuple (c.map .int)) = decide (m > 0) := by
            rw [areWt_t, ha, List.length_map, decide_eq_true hl, Bool.true_and, Bool.true_and, max_pos hm hx]
          rwa [this] at h
    · have e2 : (decide ((1 : Int) ≤ (ds.length : Int)) && decide ((ds.length : Int) ≤ 60)) = false := by rw [short_len]; exact decide_eq_false hl
      have : areWt (.tuple ds) = false := by
        rw [areWt_t, decide_eq_false hl, Bool.false_and]
      rw [this] at h
      cases e : decide ((1 : Int) ≤ (ds.length : Int)) with
      | false => walk_at "q"; exact h
      | true =>
        rw [e, Bool.true_and] at e2
        walk_at "q"
        rw [e2]
        walk_at "q"
        exact h
  | dict kv => rcases kv with _ | ⟨⟨kz, vz⟩, rz⟩ <;> (try cases kz) <;> (walk_at "q"; exact h)
  | _ => walk_at "q"; exact h
theorem wt_ok {ws : List Int} (w : WOk ws) : areWt (wD ws) = true := by
  show areWt (.tuple (ws.map .int)) = true
  have n0 := w.n0
  have n1 := w.n1
  rw [areWt_t, List.length_map, decide_eq_true (⟨n0, n1⟩ : 1 ≤ ws.length ∧ ws.length ≤ 60), Bool.true_and, Bool.and_eq_true]
  refine ⟨List.all_eq_true.mpr fun x hx => ?_, List.any_eq_true.mpr ?_⟩
  · obtain ⟨a, ha, rfl⟩ := List.mem_map.mp hx
    have := w.r a ha
    simp only [isWt, isIn, Bool.and_eq_true, decide_eq_true_eq]
    exact this
  · obtain ⟨a, ha, a0⟩ := w.pos
    exact ⟨.int a, List.mem_map.mpr ⟨a, ha, rfl⟩, decide_eq_true a0⟩
theorem isN_exc {c : Str} {P : PyData → Prop} : oIsN (exD c) P = P (.bool false) := rfl
theorem isvN {c : Str} {P : Bool → Prop} : isvQ (exD c) P = P true := rfl
theorem kind_weights (K : PyData → Prop) (h : K (.str "weights")) : q_law_kind (exD "NoWeights") K := by
  unfold q_law_kind
  have y : (["NoWeights"] : List Str).any (exSub "NoWeights") = true := by decide +kernel
  have n : ∀ x ∈ (["NoPart", "NoNumber", "NoLog", "NoChase", "NoMiles", "NoLogs", "NoTable", "NoSights", "NoSet", "NoRoll", "NoName", "NoHour", "NoScheme", "NoCrew", "NoMan", "NoSale", "NoCrews", "NoPages", "NoPage", "NoPrize", "NoBalances", "NoMoney", "NoChange", "NoText", "NoRow", "TooMany"] : List Str), ([x] : List Str).any (exSub "NoWeights") = false := by decide +kernel
  simp only [List.mem_cons, List.not_mem_nil, or_false, forall_eq_or_imp, forall_eq] at n
  obtain ⟨n1, n2, n3, n4, n5, n6, n7, n8, n9, n10, n11, n12, n13, n14, n15, n16, n17, n18, n19, n20, n21, n22, n23, n24, n25, n26⟩ := n
  simp only [q_isx, isvN, y, n1, n2, n3, n4, n5, n6, n7, n8, n9, n10, n11, n12, n13, n14, n15, n16, n17, n18, n19, n20, n21, n22, n23, n24, n25, n26]
  walk_at "q"
  iterate 6 refine ⟨by decide, ?_⟩
  refine ⟨⟨by decide +kernel, by decide +kernel⟩, ?_⟩
  have e1 : cntN [PyData.bool true, .bool false, .bool false] (.bool true) = 1 := by decide +kernel
  rw [e1]
  walk_at "q"
  have e2 : decide (((1 : Nat) : Int) = 1) = true := rfl
  rw [e2]
  walk_at "q"
  refine ⟨⟨by decide +kernel, by decide +kernel⟩, ?_⟩
  have e4 : memD (.bool true) [PyData.bool false, PyData.bool false, PyData.bool false, PyData.bool false, PyData.bool false, PyData.bool false, PyData.bool false, PyData.bool false, PyData.bool false, PyData.bool false, PyData.bool false, PyData.bool false, PyData.bool false, PyData.bool false, PyData.bool false, PyData.bool false, PyData.bool false, PyData.bool false, PyData.bool false, PyData.bool false, PyData.bool false, PyData.bool false, PyData.bool false, PyData.bool false] = false := by decide +kernel
  rw [e4]
  walk_at "q"
  refine ⟨⟨by decide +kernel, by decide +kernel⟩, ?_⟩
  have e5 : (([PyData.bool true, .bool false, .bool false] : List PyData).findIdx? fun z => eqD z (.bool true)) = some 0 := by decide +kernel
  rw [e5]
  dsimp only
  have e6 : (((0 : Nat) : Int)) = 0 := rfl
  rw [e6]
  walk_at "q"
  exact h
theorem kind_part (K : PyData → Prop) (h : K (.str "part")) : q_law_kind (exD "NoPart") K := by
  unfold q_law_kind
  have y : (["NoPart"] : List Str).any (exSub "NoPart") = true := by decide +kernel
  have n : ∀ x ∈ (["NoWeights", "NoNumber", "NoLog", "NoChase", "NoMiles", "NoLogs", "NoTable", "NoSights", "NoSet", "NoRoll", "NoName", "NoHour", "NoScheme", "NoCrew", "NoMan", "NoSale", "NoCrews", "NoPages", "NoPage", "NoPrize", "NoBalances", "NoMoney", "NoChange", "NoText", "NoRow", "TooMany"] : List Str), ([x] : List Str).any (exSub "NoPart") = false := by decide +kernel
  simp only [List.mem_cons, List.not_mem_nil, or_false, forall_eq_or_imp, forall_eq] at n
  obtain ⟨n1, n2, n3, n4, n5, n6, n7, n8, n9, n10, n11, n12, n13, n14, n15, n16, n17, n18, n19, n20, n21, n22, n23, n24, n25, n26⟩ := n
  simp only [q_isx, isvN, y, n1, n2, n3, n4, n5, n6, n7, n8, n9, n10, n11, n12, n13, n14, n15, n16, n17, n18, n19, n20, n21, n22, n23, n24, n25, n26]
  walk_at "q"
  iterate 6 refine ⟨by decide, ?_⟩
  refine ⟨⟨by decide +kernel, by decide +kernel⟩, ?_⟩
  have e1 : cntN [PyData.bool false, .bool true, .bool false] (.bool true) = 1 := by decide +kernel
  rw [e1]
  walk_at "q"
  have e2 : decide (((1 : Nat) : Int) = 1) = true := rfl
  rw [e2]
  walk_at "q"
  refine ⟨⟨by decide +kernel, by decide +kernel⟩, ?_⟩
  have e4 : memD (.bool true) [PyData.bool false, PyData.bool false, PyData.bool false, PyData.bool false, PyData.bool false, PyData.bool false, PyData.bool false, PyData.bool false, PyData.bool false, PyData.bool false, PyData.bool false, PyData.bool false, PyData.bool false, PyData.bool false, PyData.bool false, PyData.bool false, PyData.bool false, PyData.bool false, PyData.bool false, PyData.bool false, PyData.bool false, PyData.bool false, PyData.bool false, PyData.bool false] = false := by decide +kernel
  rw [e4]
  walk_at "q"
  refine ⟨⟨by decide +kernel, by decide +kernel⟩, ?_⟩
  have e5 : (([PyData.bool false, .bool true, .bool false] : List PyData).findIdx? fun z => eqD z (.bool true)) = some 1 := by decide +kernel
  rw [e5]
  dsimp only
  have e6 : (((1 : Nat) : Int)) = 1 := rfl
  rw [e6]
  walk_at "q"
  exact h
theorem kind_number (K : PyData → Prop) (h : K (.str "number")) : q_law_kind (exD "NoNumber") K := by
  unfold q_law_kind
  have y : (["NoNumber"] : List Str).any (exSub "NoNumber") = true := by decide +kernel
  have n : ∀ x ∈ (["NoWeights", "NoPart", "NoLog", "NoChase", "NoMiles", "NoLogs", "NoTable", "NoSights", "NoSet", "NoRoll", "NoName", "NoHour", "NoScheme", "NoCrew", "NoMan", "NoSale", "NoCrews", "NoPages", "NoPage", "NoPrize", "NoBalances", "NoMoney", "NoChange", "NoText", "NoRow", "TooMany"] : List Str), ([x] : List Str).any (exSub "NoNumber") = false := by decide +kernel
  simp only [List.mem_cons, List.not_mem_nil, or_false, forall_eq_or_imp, forall_eq] at n
  obtain ⟨n1, n2, n3, n4, n5, n6, n7, n8, n9, n10, n11, n12, n13, n14, n15, n16, n17, n18, n19, n20, n21, n22, n23, n24, n25, n26⟩ := n
  simp only [q_isx, isvN, y, n1, n2, n3, n4, n5, n6, n7, n8, n9, n10, n11, n12, n13, n14, n15, n16, n17, n18, n19, n20, n21, n22, n23, n24, n25, n26]
  walk_at "q"
  iterate 6 refine ⟨by decide, ?_⟩
  refine ⟨⟨by decide +kernel, by decide +kernel⟩, ?_⟩
  have e1 : cntN [PyData.bool false, .bool false, .bool true] (.bool true) = 1 := by decide +kernel
  rw [e1]
  walk_at "q"
  have e2 : decide (((1 : Nat) : Int) = 1) = true := rfl
  rw [e2]
  walk_at "q"
  refine ⟨⟨by decide +kernel, by decide +kernel⟩, ?_⟩
  have e4 : memD (.bool true) [PyData.bool false, PyData.bool false, PyData.bool false, PyData.bool false, PyData.bool false, PyData.bool false, PyData.bool false, PyData.bool false, PyData.bool false, PyData.bool false, PyData.bool false, PyData.bool false, PyData.bool false, PyData.bool false, PyData.bool false, PyData.bool false, PyData.bool false, PyData.bool false, PyData.bool false, PyData.bool false, PyData.bool false, PyData.bool false, PyData.bool false, PyData.bool false] = false := by decide +kernel
  rw [e4]
  walk_at "q"
  refine ⟨⟨by decide +kernel, by decide +kernel⟩, ?_⟩
  have e5 : (([PyData.bool false, .bool false, .bool true] : List PyData).findIdx? fun z => eqD z (.bool true)) = some 2 := by decide +kernel
  rw [e5]
  dsimp only
  have e6 : (((2 : Nat) : Int)) = 2 := rfl
  rw [e6]
  walk_at "q"
  exact h
theorem word_x {c w : Str} (hk : ∀ K : PyData → Prop, K (.str w) → q_law_kind (exD c) K) (th : Prop → (Str → Prop) → Prop) (hth : ∀ (p : Prop) (E : Str → Prop), E c → th p E) (K : PyData → Prop) (h : K (.str w)) : q_law_word th K := by
  unfold q_law_word
  rw [q_jn]
  refine hth _ _ ?_
  simp only [isN_exc]
  walk_at "q"
  refine hk _ ?_
  walk_at "q"
  exact h
theorem word_t (th : Prop → (Str → Prop) → Prop) (hth : ∀ (p : Prop) (E : Str → Prop), p → th p E) (K : PyData → Prop) (h : K (.str "told")) : q_law_word th K := by
  unfold q_law_word
  rw [q_jn]
  refine hth _ _ ?_
  walk_at "q"
  exact h
theorem need_wt {d : PyData} (hd : areWt d = false) (K : PyData → Prop) (E : Str → Prop) (h : E "NoWeights") : q_need_weights d K E := by
  unfold q_need_weights
  refine are_wt_q d _ ?_
  rw [hd]
  walk_at "q"
  exact h
theorem need_wt_ok {ws : List Int} (w : WOk ws) (K : PyData → Prop) (E : Str → Prop) (h : K .none) : q_need_weights (wD ws) K E := by
  unfold q_need_weights
  refine are_wt_q _ _ ?_
  rw [wt_ok w]
  walk_at "q"
  exact h
theorem need_num_ok {n : Int} (n0 : 0 ≤ n) (K : PyData → Prop) (E : Str → Prop) (h : K .none) : q_need_number (.int n) K E := by
  unfold q_need_number
  rw [is_from_q]
  simp only [isFrom, decide_eq_true n0]
  walk_at "q"
  exact h
theorem need_num_no {d : PyData} (hd : isFrom d 0 = false) (K : PyData → Prop) (E : Str → Prop) (h : E "NoNumber") : q_need_number d K E := by
  unfold q_need_number
  rw [is_from_q, hd]
  walk_at "q"
  exact h
theorem told_in {ws : List Int} (w : WOk ws) {p : Nat} (hp : p < ws.length) (wp : 0 < gv ws p) {j : Int} (j0 : 0 ≤ j) (j1 : j ≤ 10 ^ 30) (K : PyData → Prop) (h : ∀ r, K r) : q_number_in (wD ws) (.int p) (.int j) K := by
  unfold q_number_in
  have n1 := w.n1
  walk_at "go"
  refine qLc_ind (fun k acc _ => acc.length ≤ k ∧ ∃ c : List Int, acc = c.map .int) ⟨Nat.le_refl _, [], rfl⟩ (fun k acc s hk h => ?_) (fun k d acc s sk yd hd ⟨hl, c, hc⟩ hs hy => ?_) fun acc s ⟨hl, c, hc⟩ => ?_
  · rw [range_len] at hk
    omega
  · obtain ⟨hk1, rfl⟩ := range_get hd
    have hkl : k < ws.length := by omega
    unfold qb_number_in_1
    walk_at "q"
    have z : (0 + (k : Int)) = (k : Int) := by omega
    rw [z]
    by_cases e : k = p
    · rw [decide_eq_true (show (k : Int) = (p : Int) by omega)]
      exact hs _ ⟨by omega, c, hc⟩
    · rw [decide_eq_false (show ¬ (k : Int) = (p : Int) by omega)]
      walk_at "q"
      refine ahead_of_q w hp hkl e wp j0 (by omega) _ fun m m0 m1 m2 => ?_
      exact hy _ _ ⟨by simp; omega, c ++ [m], by rw [hc]; simp⟩
  · subst hc
    walk_at "q"
    exact h _
theorem told_of {ws : List Int} (w : WOk ws) {p : Nat} (hp : p < ws.length) (wp : 0 < gv ws p) {j : Int} (j0 : 0 ≤ j) (j1 : j ≤ 10 ^ 30) (K : PyData → Prop) (E : Str → Prop) (h : ∀ r, K r) : q_number_of (wD ws) (.int p) (.int j) K E := by
  unfold q_number_of
  refine need_wt_ok w _ _ ?_
  walk_at "q"
  rw [is_within_q]
  have e : isIn (.int (p : Int)) 0 ((ws.length : Int) - 1) = true := by
    simp only [isIn, Bool.and_eq_true, decide_eq_true_eq]
    omega
  rw [e]
  walk_at "q"
  rw [pick_int hp]
  walk_at "q"
  rw [decide_eq_false (show ¬ gv ws p = 0 by omega)]
  walk_at "q"
  exact need_num_ok j0 _ _ (told_in w hp wp j0 j1 _ h)
/-- no part, or one without pennies -/
def badP (ws : List Int) (d : PyData) : Prop := isIn d 0 ((ws.length : Int) - 1) = false ∨ ∃ i : Nat, d = .int i ∧ i < ws.length ∧ gv ws i = 0
theorem of_bp {ws : List Int} (w : WOk ws) {d : PyData} (hd : badP ws d) (j : PyData) (K : PyData → Prop) (E : Str → Prop) (h : E "NoPart") : q_number_of (wD ws) d j K E := by
  unfold q_number_of
  refine need_wt_ok w _ _ ?_
  walk_at "q"
  rw [is_within_q]
  rcases hd with hd | ⟨i, rfl, hi, h0⟩
  · rw [hd]
    walk_at "q"
    exact h
  · have e : isIn (.int (i : Int)) 0 ((ws.length : Int) - 1) = true := by
      simp only [isIn, Bool.and_eq_true, decide_eq_true_eq]
      omega
    rw [e]
    walk_at "q"
    rw [pick_int hi]
    walk_at "q"
    rw [decide_eq_true h0]
    walk_at "q"
    exact h
theorem of_bn {ws : List Int} (w : WOk ws) {p : Nat} (hp : p < ws.length) (wp : 0 < gv ws p) {d : PyData} (hd : isFrom d 0 = false) (K : PyData → Prop) (E : Str → Prop) (h : E "NoNumber") : q_number_of (wD ws) (.int p) d K E := by
  unfold q_number_of
  refine need_wt_ok w _ _ ?_
  walk_at "q"
  rw [is_within_q]
  have e : isIn (.int (p : Int)) 0 ((ws.length : Int) - 1) = true := by
    simp only [isIn, Bool.and_eq_true, decide_eq_true_eq]
    omega
  rw [e]
  walk_at "q"
  rw [pick_int hp]
  walk_at "q"
  rw [decide_eq_false (show ¬ gv ws p = 0 by omega)]
  walk_at "q"
  exact need_num_no hd _ _ h
theorem of_bw {d : PyData} (hd : areWt d = false) (p j : PyData) (K : PyData → Prop) (E : Str → Prop) (h : E "NoWeights") : q_number_of d p j K E := need_wt hd _ _ h
/-- the other three, of weights and a number -/
theorem at_t {ws : List Int} (w : WOk ws) {n : Int} (n0 : 0 ≤ n) (n1 : n ≤ 10 ^ 30) (K : PyData → Prop) (E : Str → Prop) (h : ∀ r, K r) : q_penny_at (wD ws) (.int n) K E := by
  unfold q_penny_at q_penny_in
  refine need_wt_ok w _ _ (need_num_ok n0 _ _ ?_)
  refine first_counts_q w n0 n1 _ fun c hb hs => ?_
  refine next_part_q w hb.len (reads_tup c) (fun i => ⟨hb.c0 i, by have := hb.le i; omega⟩) _ fun p hp => ?_
  rw [(reads_tup c).ix p (by rw [hb.len]; exact hp.1)]
  exact h _
theorem co_t {ws : List Int} (w : WOk ws) {n : Int} (n0 : 0 ≤ n) (n1 : n ≤ 10 ^ 30) (K : PyData → Prop) (E : Str → Prop) (h : ∀ r, K r) : q_counts_of (wD ws) (.int n) K E := by
  unfold q_counts_of
  refine need_wt_ok w _ _ (need_num_ok n0 _ _ ?_)
  exact first_counts_q w n0 n1 _ fun c hb hs => h _
theorem ac_t {ws : List Int} (w : WOk ws) {n : Int} (n0 : 0 ≤ n) (d : PyData) (hbig : ∀ c : List Int, d = .tuple (c.map .int) → ∀ a ∈ c, a ≤ 10 ^ 40) (K : PyData → Prop) (E : Str → Prop) (h : ∀ r, K r) : q_are_counts (wD ws) (.int n) d K E := by
  classical
  unfold q_are_counts
  refine need_wt_ok w _ _ (need_num_ok n0 _ _ ?_)
  have n1 := w.n1
  cases d with
  | tuple ds =>
    walk_at "q"
    by_cases hl : ds.length = ws.length
    · rw [decide_eq_true (show (ds.length : Int) = (ws.length : Int) by omega)]
      walk_at "q"
      refine qLc_map (fun d => .bool (isFrom d 0)) (by omega) (fun d hd sk yd hy => by unfold qb_are_counts_1; rw [is_from_q]; exact hy) ?_
      walk_at "q"
      cases ha : ds.all fun d => isFrom d 0 with
      | false =>
        walk_at "q"
        exact h _
      | true =>
        walk_at "q"
        obtain ⟨c, rfl, hc⟩ := from_ints ha
        rw [List.length_map] at hl
        have h0 : ∀ i, 0 ≤ gv c i := fun i => by
          rcases Nat.lt_or_ge i c.length with z | z
          · exact hc _ (gv_mem z)
          · rw [gv_out z]; exact Int.le_refl _
        walk_at "q"
        by_cases hs : c.sum = n
        · rw [decide_eq_true hs]
          walk_at "q"
          have big : ∀ i, gv c i ≤ 10 ^ 40 := fun i => by
            rcases Nat.lt_or_ge i c.length with z | z
            · exact hbig c rfl _ (gv_mem z)
            · rw [gv_out z]; decide
          refine has_none_q w hl _ ?_
          walk_at "q"
          by_cases hno : ∀ i, i < ws.length → gv ws i = 0 → gv c i = 0
          · rw [decide_eq_true hno]
            walk_at "q"
            refine last_part_q w hl (reads_tup c) (fun i => ⟨h0 i, big i⟩) _ (fun p hp => ?_) fun hz => ?_
            · walk_at "q"
              refine next_part_q w hl (reads_tup c) (fun i => ⟨h0 i, big i⟩) _ fun q hq => ?_
              have p1 := hp.1
              have q1 := hq.1
              walk_at "q"
              rw [pick_int (by omega)]
              walk_at "q"
              rw [pick_int (by omega)]
              walk_at "q"
              have bp := big p
              have bq := big q
              have cp := h0 p
              have cq := h0 q
              exact stands_ahead_q w p1 q1 (by omega) (by omega) (by omega) (by omega) _ (h _)
            · walk_at "q"
              exact h _
          · rw [decide_eq_false hno]
            walk_at "q"
            exact h _
        · rw [decide_eq_false hs]
          walk_at "q"
          exact h _
    · rw [decide_eq_false (show ¬ (ds.length : Int) = (ws.length : Int) by omega)]
      walk_at "q"
      exact h _
  | dict kv => rcases kv with _ | ⟨⟨kz, vz⟩, rz⟩ <;> (try cases kz) <;> (walk_at "q"; exact h _)
  | _ => walk_at "q"; exact h _
theorem at_w {d : PyData} (hd : areWt d = false) (n : PyData) (K : PyData → Prop) (E : Str → Prop) (h : E "NoWeights") : q_penny_at d n K E := need_wt hd _ _ h
theorem co_w {d : PyData} (hd : areWt d = false) (n : PyData) (K : PyData → Prop) (E : Str → Prop) (h : E "NoWeights") : q_counts_of d n K E := need_wt hd _ _ h
theorem ac_w {d : PyData} (hd : areWt d = false) (n t : PyData) (K : PyData → Prop) (E : Str → Prop) (h : E "NoWeights") : q_are_counts d n t K E := need_wt hd _ _ h
theorem at_n {ws : List Int} (w : WOk ws) {d : PyData} (hd : isFrom d 0 = false) (K : PyData → Prop) (E : Str → Prop) (h : E "NoNumber") : q_penny_at (wD ws) d K E := need_wt_ok w _ _ (need_num_no hd _ _ h)
theorem co_n {ws : List Int} (w : WOk ws) {d : PyData} (hd : isFrom d 0 = false) (K : PyData → Prop) (E : Str → Prop) (h : E "NoNumber") : q_counts_of (wD ws) d K E := need_wt_ok w _ _ (need_num_no hd _ _ h)
theorem ac_n {ws : List Int} (w : WOk ws) {d : PyData} (hd : isFrom d 0 = false) (t : PyData) (K : PyData → Prop) (E : Str → Prop) (h : E "NoNumber") : q_are_counts (wD ws) d t K E := need_wt_ok w _ _ (need_num_no hd _ _ h)
def fw3 (a b c : Bool) : Str := if a then "weights" else if b then "part" else if c then "number" else "told"
def fw2 (a c : Bool) : Str := if a then "weights" else if c then "number" else "told"
theorem first3 (a b c : Bool) (K : PyData → Prop) (h : K (.str (fw3 a b c))) : q_law_first (.list [.bool a, .bool b, .bool c]) (.tuple [.int 0, .int 1, .int 2]) K := by
  unfold q_law_first
  walk_at "q"
  cases a <;> cases b <;> cases c <;> (simp only [DL.qFor, qb_law_first_1]; walk_at "q"; exact h)
theorem first2 (a b c : Bool) (K : PyData → Prop) (h : K (.str (fw2 a c))) : q_law_first (.list [.bool a, .bool b, .bool c]) (.tuple [.int 0, .int 2]) K := by
  unfold q_law_first
  walk_at "q"
  cases a <;> cases b <;> cases c <;> (simp only [DL.qFor, qb_law_first_1]; walk_at "q"; exact h)
def zeroD (d : PyData) : Option PyData := match d with
  | .tuple [.int p, .int w] => if w = 0 then some (.int p) else none
  | _ => none
theorem zeros_list : ∀ (ws : List Int) (m : Nat), ∃ ps : List Nat, (enumD m (ws.map .int)).filterMap zeroD = ps.map (fun i : Nat => .int (i : Int)) ∧ ∀ i ∈ ps, m ≤ i ∧ i - m < ws.length ∧ gv ws (i - m) = 0
  | [], m => ⟨[], rfl, fun i h => by simp at h⟩
  | w :: ws, m => by
    obtain ⟨ps, e, hm⟩ := zeros_list ws (m + 1)
    have up : ∀ i ∈ ps, m ≤ i ∧ i - m < (w :: ws).length ∧ gv (w :: ws) (i - m) = 0 := fun i hi => by
      obtain ⟨h1, h2, h3⟩ := hm i hi
      have e2 : i - m = (i - (m + 1)) + 1 := by omega
      refine ⟨by omega, by simp; omega, ?_⟩
      rw [e2]
      exact h3
    by_cases h : w = 0
    · refine ⟨m :: ps, ?_, fun i hi => ?_⟩
      · show List.filterMap zeroD (PyData.tuple [.int (m : Int), .int w] :: enumD (m + 1) (ws.map .int)) = _
        rw [List.filterMap_cons]
        simp only [zeroD, if_pos h]
        rw [e]
        rfl
      · rcases List.mem_cons.mp hi with rfl | hi
        · refine ⟨Nat.le_refl _, by simp, ?_⟩
          rw [Nat.sub_self]
          exact h
        · exact up i hi
    · refine ⟨ps, ?_, up⟩
      show List.filterMap zeroD (PyData.tuple [.int (m : Int), .int w] :: enumD (m + 1) (ws.map .int)) = _
      rw [List.filterMap_cons]
      simp only [zeroD, if_neg h]
      exact e
structure Bad (ws : List Int) (bw bp bn : PyData) : Prop where
  wt : areWt bw = false
  part : badP ws bp
  num : isFrom bn 0 = false
theorem bads_q {ws : List Int} (w : WOk ws) {n : Int} {xs : List PyData} (hp : StockOk n xs) (hn : n ≤ 10 ^ 5) (K : PyData → List PyData → Prop) (h : ∀ bw bp bn xs', Bad ws bw bp bn → StockOk (n + 10) xs' → K (.list [bw, bp, bn]) xs') : q_law_bads xs (wD ws) K := by
  unfold q_law_bads
  have z := sz_of (i := 10) (by decide) (by decide)
  have n0 := w.n0
  have n1 := w.n1
  generalize hT : (fun (sh : List PyData) (part : PyData) => oPow (.int 10) (.int 6) fun t27 => oAdd t27 (.int 1) fun t28 => oMul (.tuple [(.int 1)]) (.int 61) fun t29 => q_law_take sh (.int 12) fun t30 stock_here31 =>
        oIx (.list [(.tuple []), (.tuple [(.int 0)]), (.tuple [(.int 0), (.int 0)]), (.tuple [(.int (-1)), (.int 2)]), (.tuple [(.bool true), (.int 2)]), (.list [(.int 1), (.int 2)]), .none, (.str "12"), (.tuple [t28]), t29, (.dict []), (.int 7)]) t30 fun t32 =>
        oPow (.int 10) (.int 39) fun t33 => oNeg t33 fun t34 => q_law_take stock_here31 (.int 10) fun t35 stock_here36 =>
        oIx (.list [(.int (-1)), (.bool true), (.bool false), .none, (.str "3"), (.tuple [(.int 3)]), (.list [(.int 3)]), t34, (.dict []), (.tuple [(.tuple [])])]) t35 fun t37 => K (.list [t32, part, t37]) stock_here36) = T
  have tail : ∀ (xs : List PyData) (bp : PyData), StockOk (n + 5) xs → badP ws bp → T xs bp := fun xs bp hp hb => by
    subst hT
    walk_at "go"
    refine stock_take_q hp (by omega) (by decide) (by decide) _ fun r xs r0 r1 hp => ?_
    walk_at "q"
    refine pick_mem r0 (by simpa using r1) fun bw hbw => ?_
    have hbw : areWt bw = false := by
      simp only [List.mem_cons, List.not_mem_nil, or_false] at hbw
      rcases hbw with rfl | rfl | rfl | rfl | rfl | rfl | rfl | rfl | rfl | rfl | rfl | rfl <;> decide +kernel
    walk_at "go"
    refine stock_take_q hp (by omega) (by decide) (by decide) _ fun r xs r0 r1 hp => ?_
    walk_at "q"
    refine pick_mem r0 (by simpa using r1) fun bn hbn => ?_
    refine h bw bp bn xs ⟨hbw, hb, ?_⟩ (hp.mono (by omega))
    simp only [List.mem_cons, List.not_mem_nil, or_false] at hbn
    rcases hbn with rfl | rfl | rfl | rfl | rfl | rfl | rfl | rfl | rfl | rfl <;> decide +kernel
  clear hT
  walk_at "go"
  refine stock_take_q hp (by omega) (by decide) (by decide) _ fun r xs r0 r1 hp => ?_
  walk_at "q"
  refine pick_mem r0 (by simpa using r1) fun bp hbp => ?_
  have e39 : (10 : Int) ^ Int.toNat 39 > 1000 := by decide
  have hb : badP ws bp := .inl (by
    simp only [List.mem_cons, List.not_mem_nil, or_false] at hbp
    have ii : ∀ i : Int, (i < 0 ∨ (ws.length : Int) - 1 < i) → isIn (.int i) 0 ((ws.length : Int) - 1) = false := fun i hi => by
      simp only [isIn, Bool.and_eq_false_iff, decide_eq_false_iff_not]
      omega
    rcases hbp with rfl | rfl | rfl | rfl | rfl | rfl | rfl | rfl | rfl | rfl | rfl | rfl <;> (first | rfl | exact ii _ (by omega)))
  clear hbp
  walk_at "q"
  obtain ⟨ps, e, hm⟩ := zeros_list ws 0
  refine qLc_fmap zeroD (by rw [enumD_length, List.length_map]; omega) (fun d hd sk yd hy hs => ?_) ?_
  · obtain ⟨k, hk⟩ := List.mem_iff_getElem?.mp hd
    obtain ⟨x, hx, rfl⟩ := enumD_get hk
    rw [List.getElem?_map] at hx
    obtain ⟨v, hv, rfl⟩ := Option.map_eq_some_iff.mp hx
    unfold qb_law_bads_1
    walk_at "q"
    refine bIf_d (fun z => hy _ (by simp [zeroD, z])) fun z => hs (by simp [zeroD, z])
  · have pz : ((enumD 0 (ws.map .int)).filterMap zeroD).length ≤ ws.length := by
      have := List.length_filterMap_le zeroD (enumD 0 (ws.map .int))
      rw [enumD_length, List.length_map] at this
      exact this
    rw [e, List.length_map] at pz
    rw [e]
    cases hps : ps with
    | nil =>
      walk_at "q"
      exact tail _ _ (hp.mono (by omega)) hb
    | cons p0 pr =>
      rw [← hps]
      have hne : (ps.map fun i : Nat => PyData.int (i : Int)).isEmpty = false := by rw [hps]; rfl
      have pl : 0 < ps.length := by rw [hps]; simp
      rw [hne]
      walk_at "q"
      refine stock_take_q hp (by omega) (by decide) (by decide) _ fun r xs r0 r1 hp => ?_
      walk_at "q"
      refine bIf_d (fun _ => ?_) fun _ => ?_
      · refine stock_take_q hp (by omega) (by omega) (by omega) _ fun r xs r0 r1 hp => ?_
        walk_at "q"
        refine pick_mem r0 (by simpa using r1) fun d hd => ?_
        obtain ⟨i, hi, rfl⟩ := List.mem_map.mp hd
        obtain ⟨_, h2, h3⟩ := hm i hi
        exact tail _ _ (hp.mono (by omega)) (.inr ⟨i, rfl, h2, h3⟩)
      · exact tail _ _ (hp.mono (by omega)) hb
theorem oNe_same {w : Str} {K : PyData → Prop} (h : K (.bool false)) : oNe (.str w) (.str w) K := by
  rw [q_neS, decide_eq_true rfl]
  exact h
theorem callT_at {tbl : List (Nat × DTh)} {f : Nat} {th : DTh} {K : DTh → Prop} (hm : (f, th) ∈ tbl) (h : K th) : callT tbl (plD f) K := ⟨f, th, rfl, hm, h⟩
theorem four {fs : List Nat} (h : List.length fs = 4) : ∃ f1 f2 f3 f4, fs = [f1, f2, f3, f4] := by
  match fs, h with
  | [a, b, c, d], _ => exact ⟨a, b, c, d, rfl⟩
section
variable {ws : List Int} {bw bp bn : PyData} {p : Nat} {n : Int} {thing : PyData} (K : PyData → Prop)
theorem word_of (w : WOk ws) (hb : Bad ws bw bp bn) (hp : p < ws.length) (wp : 0 < gv ws p) (n0 : 0 ≤ n) (n1 : n ≤ 10 ^ 30) (a b c : Bool) (h : K (.str (fw3 a b c))) :
    q_law_word (fun pp Er => q_number_of (cond a bw (wD ws)) (cond b bp (.int p)) (cond c bn (.int n)) (fun _ => pp) Er) K := by
  cases a with
  | true => exact word_x kind_weights _ (fun pp E e => of_bw hb.wt _ _ _ _ e) _ h
  | false =>
    cases b with
    | true => exact word_x kind_part _ (fun pp E e => of_bp w hb.part _ _ _ e) _ h
    | false =>
      cases c with
      | true => exact word_x kind_number _ (fun pp E e => of_bn w hp wp hb.num _ _ e) _ h
      | false => exact word_t _ (fun pp E e => told_of w hp wp n0 n1 _ _ fun _ => e) _ h
theorem word_at (w : WOk ws) (hb : Bad ws bw bp bn) (n0 : 0 ≤ n) (n1 : n ≤ 10 ^ 30) (a c : Bool) (h : K (.str (fw2 a c))) : q_law_word (fun pp Er => q_penny_at (cond a bw (wD ws)) (cond c bn (.int n)) (fun _ => pp) Er) K := by
  cases a with
  | true => exact word_x kind_weights _ (fun pp E e => at_w hb.wt _ _ _ e) _ h
  | false =>
    cases c with
    | true => exact word_x kind_number _ (fun pp E e => at_n w hb.num _ _ e) _ h
    | false => exact word_t _ (fun pp E e => at_t w n0 n1 _ _ fun _ => e) _ h
theorem word_co (w : WOk ws) (hb : Bad ws bw bp bn) (n0 : 0 ≤ n) (n1 : n ≤ 10 ^ 30) (a c : Bool) (h : K (.str (fw2 a c))) : q_law_word (fun pp Er => q_counts_of (cond a bw (wD ws)) (cond c bn (.int n)) (fun _ => pp) Er) K := by
  cases a with
  | true => exact word_x kind_weights _ (fun pp E e => co_w hb.wt _ _ _ e) _ h
  | false =>
    cases c with
    | true => exact word_x kind_number _ (fun pp E e => co_n w hb.num _ _ e) _ h
    | false => exact word_t _ (fun pp E e => co_t w n0 n1 _ _ fun _ => e) _ h
theorem word_ac (w : WOk ws) (hb : Bad ws bw bp bn) (n0 : 0 ≤ n) (n1 : n ≤ 10 ^ 30) (ht : ∀ c : List Int, thing = .tuple (c.map .int) → ∀ a ∈ c, a ≤ 10 ^ 40) (a c : Bool) (h : K (.str (fw2 a c))) : q_law_word (fun pp Er => q_are_counts (cond a bw (wD ws)) (cond c bn (.int n)) thing (fun _ => pp) Er) K := by
  cases a with
  | true => exact word_x kind_weights _ (fun pp E e => ac_w hb.wt _ _ _ _ e) _ h
  | false =>
    cases c with
    | true => exact word_x kind_number _ (fun pp E e => ac_n w hb.num _ _ _ e) _ h
    | false => exact word_t _ (fun pp E e => ac_t w n0 _ ht _ _ fun _ => e) _ h
end
theorem calls_q {ws : List Int} (w : WOk ws) {bw bp bn : PyData} (hb : Bad ws bw bp bn) {p : Nat} (hp : p < ws.length) (wp : 0 < gv ws p) {n : Int} (n0 : 0 ≤ n) (n1 : n ≤ 10 ^ 30) {thing : PyData} (ht : ∀ c : List Int, thing = .tuple (c.map .int) → ∀ a ∈ c, a ≤ 10 ^ 40) (a b c : Bool) (K : PyData → Prop) (j0 j1 j2 j3 : PyData) {fs : List Nat} (hf : List.length fs = 4) {KK : Unit → Prop} (h : KK ()) :
    DL.qFor (qb_law_6 K (tblP [fun Pr Er => q_number_of (cond a bw (wD ws)) (cond b bp (.int p)) (cond c bn (.int n)) (fun n8 => Pr (SD.dat n8)) Er, fun Pr Er => q_penny_at (cond a bw (wD ws)) (cond c bn (.int n)) (fun p9 => Pr (SD.dat p9)) Er,
      fun Pr Er => q_counts_of (cond a bw (wD ws)) (cond c bn (.int n)) (fun c10 => Pr (SD.dat c10)) Er, fun Pr Er => q_are_counts (cond a bw (wD ws)) (cond c bn (.int n)) thing (fun a11 => Pr (SD.dat a11)) Er] fs)) (j0, j1, j2, j3, .list [.bool a, .bool b, .bool c]) (itmsP [[0, 1, 2], [0, 2], [0, 2], [0, 2]] fs) () KK := by
  obtain ⟨f1, f2, f3, f4, rfl⟩ := four hf
  show DL.qFor _ _ [.tuple [plD f1, .tuple [.int 0, .int 1, .int 2]], .tuple [plD f2, .tuple [.int 0, .int 2]], .tuple [plD f3, .tuple [.int 0, .int 2]], .tuple [plD f4, .tuple [.int 0, .int 2]]] _ _
  have one : ∀ (tbl : List (Nat × DTh)) (f : Nat) (th : DTh) (wd : Str) (pl : List PyData) (nx bk : (PyData × PyData × PyData × PyData × PyData) → Unit → Prop), (f, th) ∈ tbl → (∀ R : PyData → Prop, R (.str wd) → q_law_word (fun pp Er => th (fun _ => pp) Er) R) → (∀ R : PyData → Prop, R (.str wd) → q_law_first (.list [.bool a, .bool b, .bool c]) (.tuple pl) R) →
      nx (j0, j1, j2, j3, .list [.bool a, .bool b, .bool c]) () → qb_law_6 K tbl (.tuple [plD f, .tuple pl]) (j0, j1, j2, j3, .list [.bool a, .bool b, .bool c]) () nx bk := fun tbl f th wd pl nx bk hm h1 h2 h3 => by
    unfold qb_law_6
    refine callT_at hm (h1 _ (h2 _ (oNe_same ?_)))
    exact h3
  refine one _ f1 _ (fw3 a b c) _ _ _ List.mem_cons_self (fun R hR => word_of R w hb hp wp n0 n1 a b c hR) (fun R hR => first3 a b c R hR) ⟨rfl, ?_⟩
  refine one _ f2 _ (fw2 a c) _ _ _ (List.mem_cons_of_mem _ List.mem_cons_self) (fun R hR => word_at R w hb n0 n1 a c hR) (fun R hR => first2 a b c R hR) ⟨rfl, ?_⟩
  refine one _ f3 _ (fw2 a c) _ _ _ (List.mem_cons_of_mem _ (List.mem_cons_of_mem _ List.mem_cons_self)) (fun R hR => word_co R w hb n0 n1 a c hR) (fun R hR => first2 a b c R hR) ⟨rfl, ?_⟩
  refine one _ f4 _ (fw2 a c) _ _ _ (List.mem_cons_of_mem _ (List.mem_cons_of_mem _ (List.mem_cons_of_mem _ List.mem_cons_self))) (fun R hR => word_ac R w hb n0 n1 ht a c hR) (fun R hR => first2 a b c R hR) ⟨rfl, ?_⟩
  exact h
theorem mask_q {ws : List Int} (w : WOk ws) {bw bp bn : PyData} (hb : Bad ws bw bp bn) {p : Nat} (hp : p < ws.length) (wp : 0 < gv ws p) {n : Int} (n0 : 0 ≤ n) (n1 : n ≤ 10 ^ 30) {thing : PyData} (ht : ∀ c : List Int, thing = .tuple (c.map .int) → ∀ a ∈ c, a ≤ 10 ^ 40) (m : Int) (K : PyData → Prop) (i0 : PyData) (nx bk : (PyData × PyData × PyData × PyData) → Unit → Prop)
    (h : nx (i0, .list [bw, bp, bn], .list [wD ws, .int p, .int n], thing) ()) : qb_law_3 K (.int m) (i0, .list [bw, bp, bn], .list [wD ws, .int p, .int n], thing) () nx bk := by
  unfold qb_law_3
  walk_at "q"
  simp only [DL.qLc, qb_law_4]
  walk_at "go"
  generalize decide (m / 1 % 2 = 1) = a
  generalize decide (m / 2 % 2 = 1) = b
  generalize decide (m / 4 % 2 = 1) = c
  rw [show rangeD 0 (Int.toNat 3) = [PyData.int 0, .int 1, .int 2] from rfl]
  have fin : ∀ {KK : Unit → Prop} {fs : List Nat}, List.length fs = 4 → KK () → _ := fun {KK fs} hf hk => calls_q w hb hp wp n0 n1 ht a b c K i0 (.list [bw, bp, bn]) (.list [wD ws, .int p, .int n]) thing (fs := fs) hf (KK := KK) hk
  cases a <;> cases b <;> cases c <;>
  · simp only [DL.qLc, qb_law_5]
    walk_at "q"
    simp only [if_true, if_false]
    unfold q_law_calls
    walk_at "q"
    simp only [DL.seqQ]
    walk_at "go"
    intro fs hf
    exact fin hf h
theorem the_law (ns : List Int) (hn : ns.length ≤ 63) (K : PyData → Prop) (h : K (.bool true)) : q_law (.list (ns.map .int)) K := by
  unfold q_law
  walk_at "go"
  obtain ⟨m, e, hm⟩ : ∃ m : Nat, (if (if (ns.length : Int) < 16 then (ns.length : Int) else 16) > 4 then if (ns.length : Int) < 16 then (ns.length : Int) else 16 else 4).toNat = m ∧ m ≤ 16 := ⟨_, rfl, by split <;> split <;> omega⟩
  rw [e]
  refine qFor_range (fun _ _ => True) trivial (fun k s nx hk _ hnx => ?_) fun _ _ => h
  have z : (0 + (k : Int)) = (k : Int) := by omega
  rw [z]
  unfold qb_law_1
  refine law_stock_q ns k (by omega) (by omega) _ fun xs hp => ?_
  refine law_weights_q hp (by decide) (by decide) (by decide) _ fun ws xs w wl hp => ?_
  refine bads_q w hp (by omega) _ fun bw bp bn xs hb hp => ?_
  have n0 := w.n0
  have n1 := w.n1
  obtain ⟨i0, hi0, wi0⟩ := w.some
  walk_at "q"
  obtain ⟨ps, e, hm2⟩ := parts_list ws 0
  have hm3 : ∀ i ∈ ps, i < ws.length ∧ 0 < gv ws i := fun i hi => by simpa using (hm2 i).mp hi
  have hin : i0 ∈ ps := (hm2 i0).mpr ⟨Nat.zero_le _, by simpa using hi0, by simpa using wi0⟩
  have pz : ((enumD 0 (ws.map .int)).filterMap posD).length ≤ ws.length := by
    have := List.length_filterMap_le posD (enumD 0 (ws.map .int))
    rw [enumD_length, List.length_map] at this
    exact this
  rw [e, List.length_map] at pz
  have pl : 0 < ps.length := List.length_pos_of_mem hin
  refine qLc_fmap posD (by rw [enumD_length, List.length_map]; omega) (fun d hd sk yd hy hs => ?_) ?_
  · obtain ⟨k, hk⟩ := List.mem_iff_getElem?.mp hd
    obtain ⟨x, hx, rfl⟩ := enumD_get hk
    rw [List.getElem?_map] at hx
    obtain ⟨v, hv, rfl⟩ := Option.map_eq_some_iff.mp hx
    unfold qb_law_2
    walk_at "q"
    refine bIf_d (fun z => hy _ (by simp [posD, z])) fun z => hs (by simp [posD, z])
  · rw [e]
    have zz := sz_of (i := 10) (by decide) (by decide)
    walk_at "q"
    refine stock_take_q hp (by omega) (by omega) (by omega) _ fun r xs r0 r1 hp => ?_
    walk_at "q"
    refine pick_mem r0 (by simpa using r1) fun d hd => ?_
    obtain ⟨p, hpp, rfl⟩ := List.mem_map.mp hd
    clear hd
    obtain ⟨p1, p2⟩ := hm3 p hpp
    have e6 : (10 : Int) ^ Int.toNat 6 = 1000000 := by decide
    have e15 : (10 : Int) ^ Int.toNat 15 = 1000000000000000 := by decide
    walk_at "go"
    rw [e6]
    refine stock_take_q hp (by omega) (by decide) (by decide) _ fun t xs t0 t1 hp => ?_
    refine stock_take_q hp (by omega) (by decide) (by decide) _ fun u xs u0 u1 hp => ?_
    rw [e15]
    walk_at "q"
    refine pick_mem u0 (by simpa using u1) fun d hd => ?_
    obtain ⟨n, rfl, n0', n1'⟩ : ∃ n : Int, d = .int n ∧ 0 ≤ n ∧ n ≤ 10 ^ 30 := by
      rcases mem3 hd with rfl | rfl | rfl <;> exact ⟨_, rfl, by omega, by omega⟩
    clear hd
    refine ⟨⟨by simp, by omega, by omega, by decide⟩, ?_⟩
    refine stock_take_q hp (by omega) (by decide) (by decide) _ fun v xs v0 v1 hp => ?_
    refine pick_mem v0 (by simpa using v1) fun thing hth => ?_
    have ht : ∀ c : List Int, thing = .tuple (c.map .int) → ∀ a ∈ c, a ≤ 10 ^ 40 := by
      intro c ec a ha
      simp only [List.mem_cons, List.not_mem_nil, or_false] at hth
      have inj : ∀ {c d : List Int}, PyData.tuple (c.map .int) = .tuple (d.map .int) → c = d := fun {c d} e => by
        injection e with e
        have : (c.map PyData.int).map (fun x => match x with | .int i => i | _ => 0) = (d.map PyData.int).map (fun x => match x with | .int i => i | _ => 0) := by rw [e]
        simpa [List.map_map, Function.comp_def] using this
      rcases hth with rfl | rfl | rfl | rfl | rfl
      · cases ec
      · have := inj (show PyData.tuple (ws.map .int) = _ from ec)
        subst this
        have := w.r a ha
        omega
      · cases ec
      · cases ec
      · have e3 : (List.replicate (ws.length : Int).toNat [PyData.int 0]).flatten = (List.replicate (ws.length : Int).toNat (0 : Int)).map .int := by
          generalize (ws.length : Int).toNat = q
          induction q with
          | zero => rfl
          | succ q ih => rw [List.replicate_succ, List.flatten_cons, ih, List.replicate_succ]; rfl
        rw [e3] at ec
        have := inj ec
        subst this
        rw [List.eq_of_mem_replicate ha]
        decide
    clear hth
    refine qFor_all (fun _ => True) trivial (fun d s nx2 hd _ hnx2 => ?_) fun _ _ => hnx _ trivial
    obtain ⟨mm, rfl⟩ : ∃ mm : Int, d = .int mm := by
      simp only [List.mem_cons, List.not_mem_nil, or_false] at hd
      rcases hd with rfl | rfl | rfl | rfl | rfl | rfl | rfl | rfl | rfl <;> exact ⟨_, rfl⟩
    exact mask_q w hb p1 p2 n0' n1' ht mm K _ _ _ (hnx2 _ trivial)
section
variable {P : Program} {w : World} {K : PySem.W.Frag} {mg : Str → Option Value} {base : Heap} [SysB base] {Tb : List (Addr × Str)} [LamB K base mg Tb lam]
def kk_is_whole : RT → (PyData → Prop) := fun R v => R (.dat v) []
def S_is_whole : DSp := fun as Q => match as with
  | [.dat x0] => q_is_whole x0 (kk_is_whole Q)
  | _ => False
theorem len_is_whole (as : List SD) (Q : SD → List SD → Prop) (h : S_is_whole as Q) : as.length = 1 := by
  unfold S_is_whole at h
  split at h
  · rfl
  · exact h.elim
theorem cels_is_whole : CelsIn 0 S_is_whole := by
  intro as Q h i p xs e
  unfold S_is_whole at h
  split at h
  · exact absurd e (no_cel (ds := [_]) i p xs)
  · exact h.elim
def N_is_whole : List Str := ["thing"]
theorem sc_is_whole : FnScope N_is_whole ["thing"] (defScope (top 1)) := ⟨rfl, rfl, rfl, by decide +kernel, rfl, by decide +kernel, by decide +kernel⟩
theorem fg_is_whole (T : Tp K mg)  {fd : FuncData} (Fn : Fun K "is_whole" "is_whole" (top 1) (He.ga K "is_whole") fd) : FnG P w K mg base Tb 1 (He.ga K "is_whole") fd ["thing"] S_is_whole := by
  refine dfn 0 Fn sc_is_whole len_is_whole cels_is_whole fun cdv A outer s H hr hA => ⟨_, (sone (sret (m := 0) (dx (dandV (disi "int" "int" (m_isinstance T) (m_int T) (by decide +kernel) (by decide +kernel) (dv 0)) (done (dnotV (disi "bool" "bool" (m_isinstance T) (m_bool T) (by decide +kernel) (by decide +kernel) (dv 0)))))))), fun as Q h => ?_⟩
  unfold S_is_whole at h
  split at h
  · unfold q_is_whole at h
    rename_i x0
    refine at_env (b := [.dat x0]) rfl ?_
    exact Eq.mp (by kernel_rfl) h
  · exact h.elim
theorem ok_is_whole (T : Tp K mg)  : Dn P w K mg base Tb "is_whole" 1 ["thing"] S_is_whole := by
  obtain ⟨kV, doc, pm, an, cdv, ct, Fn⟩ := T.fun_ "is_whole" (top 1) 0 71
  exact ⟨⟨_, fg_is_whole T  Fn, Fn.binds (ps := ["thing"]) fun _ _ _ _ _ _ us hl => match us, hl with | [_], _ => rfl⟩, T.glo "is_whole" 15, T.keep "is_whole" 71⟩
def kk_is_within : RT → (PyData → Prop) := fun R v => R (.dat v) []
def S_is_within : DSp := fun as Q => match as with
  | [.dat x0, .dat x1, .dat x2] => q_is_within x0 x1 x2 (kk_is_within Q)
  | _ => False
theorem len_is_within (as : List SD) (Q : SD → List SD → Prop) (h : S_is_within as Q) : as.length = 3 := by
  unfold S_is_within at h
  split at h
  · rfl
  · exact h.elim
theorem cels_is_within : CelsIn 0 S_is_within := by
  intro as Q h i p xs e
  unfold S_is_within at h
  split at h
  · exact absurd e (no_cel (ds := [_, _, _]) i p xs)
  · exact h.elim
def N_is_within : List Str := ["thing", "least", "most"]
theorem sc_is_within : FnScope N_is_within ["thing", "least", "most"] (defScope (top 2)) := ⟨rfl, rfl, rfl, by decide +kernel, rfl, by decide +kernel, by decide +kernel⟩
theorem fg_is_within (T : Tp K mg) (D_is_whole : Dn P w K mg base Tb "is_whole" 1 ["thing"] S_is_whole) {fd : FuncData} (Fn : Fun K "is_within" "is_within" (top 2) (He.ga K "is_within") fd) : FnG P w K mg base Tb 2 (He.ga K "is_within") fd ["thing", "least", "most"] S_is_within := by
  refine dfn 0 Fn sc_is_within len_is_within cels_is_within fun cdv A outer s H hr hA => ⟨_, (sone (sret (m := 0) (dx (dandV (dfrz (dcn D_is_whole (hr.mono (by decide)) hA (acons (dv 0) anil))) (done (dchain op_le op_le opr_le opr_le (dv 1) (dv 0) (dv 2))))))), fun as Q h => ?_⟩
  unfold S_is_within at h
  split at h
  · unfold q_is_within at h
    rename_i x0 x1 x2
    refine at_env (b := [.dat x0, .dat x1, .dat x2]) rfl ?_
    exact Eq.mp (by kernel_rfl) h
  · exact h.elim
theorem ok_is_within (T : Tp K mg) (D_is_whole : Dn P w K mg base Tb "is_whole" 1 ["thing"] S_is_whole) : Dn P w K mg base Tb "is_within" 2 ["thing", "least", "most"] S_is_within := by
  obtain ⟨kV, doc, pm, an, cdv, ct, Fn⟩ := T.fun_ "is_within" (top 2) 1 72
  exact ⟨⟨_, fg_is_within T D_is_whole Fn, Fn.binds (ps := ["thing", "least", "most"]) fun _ _ _ _ _ _ us hl => match us, hl with | [_, _, _], _ => rfl⟩, T.glo "is_within" 16, T.keep "is_within" 72⟩
def kk_is_from : RT → (PyData → Prop) := fun R v => R (.dat v) []
def S_is_from : DSp := fun as Q => match as with
  | [.dat x0, .dat x1] => q_is_from x0 x1 (kk_is_from Q)
  | _ => False
theorem len_is_from (as : List SD) (Q : SD → List SD → Prop) (h : S_is_from as Q) : as.length = 2 := by
  unfold S_is_from at h
  split at h
  · rfl
  · exact h.elim
theorem cels_is_from : CelsIn 0 S_is_from := by
  intro as Q h i p xs e
  unfold S_is_from at h
  split at h
  · exact absurd e (no_cel (ds := [_, _]) i p xs)
  · exact h.elim
def N_is_from : List Str := ["thing", "least"]
theorem sc_is_from : FnScope N_is_from ["thing", "least"] (defScope (top 3)) := ⟨rfl, rfl, rfl, by decide +kernel, rfl, by decide +kernel, by decide +kernel⟩
theorem fg_is_from (T : Tp K mg) (D_is_whole : Dn P w K mg base Tb "is_whole" 1 ["thing"] S_is_whole) {fd : FuncData} (Fn : Fun K "is_from" "is_from" (top 3) (He.ga K "is_from") fd) : FnG P w K mg base Tb 2 (He.ga K "is_from") fd ["thing", "least"] S_is_from := by
  refine dfn 0 Fn sc_is_from len_is_from cels_is_from fun cdv A outer s H hr hA => ⟨_, (sone (sret (m := 0) (dx (dandV (dfrz (dcn D_is_whole (hr.mono (by decide)) hA (acons (dv 0) anil))) (done (dcmp op_le opr_le (dv 1) (dv 0) (nomark _))))))), fun as Q h => ?_⟩
  unfold S_is_from at h
  split at h
  · unfold q_is_from at h
    rename_i x0 x1
    refine at_env (b := [.dat x0, .dat x1]) rfl ?_
    exact Eq.mp (by kernel_rfl) h
  · exact h.elim
theorem ok_is_from (T : Tp K mg) (D_is_whole : Dn P w K mg base Tb "is_whole" 1 ["thing"] S_is_whole) : Dn P w K mg base Tb "is_from" 2 ["thing", "least"] S_is_from := by
  obtain ⟨kV, doc, pm, an, cdv, ct, Fn⟩ := T.fun_ "is_from" (top 3) 2 73
  exact ⟨⟨_, fg_is_from T D_is_whole Fn, Fn.binds (ps := ["thing", "least"]) fun _ _ _ _ _ _ us hl => match us, hl with | [_, _], _ => rfl⟩, T.glo "is_from" 17, T.keep "is_from" 73⟩
def kk_are_weights : RT → (PyData → Prop) := fun R v => R (.dat v) []
def em_are_weights_1 (i : PyData) (s : Unit) : List SD := [.dat i, .un]
def de_are_weights_1 : List SD → Option ((PyData) × (Unit))
  | [.dat x0, .un] => some (x0, ())
  | _ => none
theorem hde_are_weights_1 : ∀ env i s, de_are_weights_1 env = some (i, s) → env = em_are_weights_1 i s := by
  intro env i s h
  unfold de_are_weights_1 at h
  split at h
  · cases h; rfl
  · cases h
def S_are_weights : DSp := fun as Q => match as with
  | [.dat x0] => q_are_weights x0 (kk_are_weights Q)
  | _ => False
theorem len_are_weights (as : List SD) (Q : SD → List SD → Prop) (h : S_are_weights as Q) : as.length = 1 := by
  unfold S_are_weights at h
  split at h
  · rfl
  · exact h.elim
theorem cels_are_weights : CelsIn 0 S_are_weights := by
  intro as Q h i p xs e
  unfold S_are_weights at h
  split at h
  · exact absurd e (no_cel (ds := [_]) i p xs)
  · exact h.elim
def N_are_weights : List Str := ["thing", "weight"]
theorem sc_are_weights : FnScope N_are_weights ["thing"] (defScope (top 36)) := ⟨rfl, rfl, rfl, by decide +kernel, rfl, by decide +kernel, by decide +kernel⟩
theorem fg_are_weights (T : Tp K mg) (D_is_within : Dn P w K mg base Tb "is_within" 2 ["thing", "least", "most"] S_is_within) {fd : FuncData} (Fn : Fun K "are_weights" "are_weights" (top 36) (He.ga K "are_weights") fd) : FnG P w K mg base Tb 3 (He.ga K "are_weights") fd ["thing"] S_are_weights := by
  refine dfn 0 Fn sc_are_weights len_are_weights cels_are_weights fun cdv A outer s H hr hA => ⟨_, (scons (sif (tor (tnot (dtest (disi "tuple" "tuple" (m_isinstance T) (m_tuple T) (by decide +kernel) (by decide +kernel) (dv 0)))) (tor1 (tnot (dchainT op_le op_le opr_le opr_le di (dlen (m_len T) (acons (dv 0) anil)) (dnum (c_MOST_PARTS T)))))).pt (sone (sret (m := 0) (dx db))) snil) (sone (sret (m := 0) (dx (dandV (dall (m_all T) rfl (acons (dfrz (dlc (dec := de_are_weights_1) (emb := em_are_weights_1) (qb := qb_are_weights_1) [("weight", 1)] (.one 1) hde_are_weights_1 rfl sc_are_weights.nd (iseq (dv 0)) (blkOk_by (own := [("weight", 1)]) (N := N_are_weights) (sc := defScope (top 36)) (by decide +kernel)) (fun _ _ _ _ _ => pg_name (i := 1) sc_are_weights.nd rfl (Or.inl rfl)) (fun _ _ _ _ _ => tyes) (fun _ _ _ _ _ => (dfrz (dcn D_is_within (hr.mono (by decide)) hA (acons (dv 1) (acons di (acons (dnum (c_MOST_WEIGHT T)) anil)))))) (fun d i s sk yd h => Eq.mp (by kernel_rfl) h))) anil)) (done (dcmp op_gt opr_gt (dmaxL (m_max T) rfl hr.units (acons (dv 0) anil)) di (nomark _)))))))), fun as Q h => ?_⟩
  unfold S_are_weights at h
  split at h
  · unfold q_are_weights at h
    rename_i x0
    refine at_env (b := [.dat x0, .un]) rfl ?_
    exact Eq.mp (by kernel_rfl) h
  · exact h.elim
theorem ok_are_weights (T : Tp K mg) (D_is_within : Dn P w K mg base Tb "is_within" 2 ["thing", "least", "most"] S_is_within) : Dn P w K mg base Tb "are_weights" 3 ["thing"] S_are_weights := by
  obtain ⟨kV, doc, pm, an, cdv, ct, Fn⟩ := T.fun_ "are_weights" (top 36) 3 74
  exact ⟨⟨_, fg_are_weights T D_is_within Fn, Fn.binds (ps := ["thing"]) fun _ _ _ _ _ _ us hl => match us, hl with | [_], _ => rfl⟩, T.glo "are_weights" 18, T.keep "are_weights" 74⟩
def kk_need_weights : RT → (PyData → Prop) := fun R v => R (.dat v) []
def S_need_weights : DSpX := fun as Q E => match as with
  | [.dat x0] => q_need_weights x0 (kk_need_weights Q) E
  | _ => False
theorem len_need_weights (as : List SD) (Q : SD → List SD → Prop) (E : Str → Prop) (h : S_need_weights as Q E) : as.length = 1 := by
  unfold S_need_weights at h
  split at h
  · rfl
  · exact h.elim
theorem nc_need_weights (as : List SD) (Q : SD → List SD → Prop) (E : Str → Prop) (h : S_need_weights as Q E) : NoCel as := by
  intro i p xs e
  unfold S_need_weights at h
  split at h
  · exact absurd e (no_cel (ds := [_]) i p xs)
  · exact h.elim
def N_need_weights : List Str := ["thing"]
theorem sc_need_weights : FnScope N_need_weights ["thing"] (defScope (top 37)) := ⟨rfl, rfl, rfl, by decide +kernel, rfl, by decide +kernel, by decide +kernel⟩
theorem fg_need_weights (T : Tp K mg) (D_are_weights : Dn P w K mg base Tb "are_weights" 3 ["thing"] S_are_weights) {fd : FuncData} (Fn : Fun K "need_weights" "need_weights" (top 37) (He.ga K "need_weights") fd) : FnX P w K mg base Tb 4 (He.ga K "need_weights") fd ["thing"] S_need_weights := by
  refine dfnX Fn sc_need_weights len_need_weights nc_need_weights fun Ec cdv A outer s H E tk po hr hA => ⟨_, (sone (sif (tnot (dtest (dfrz (dcn D_are_weights (hr.mono (by decide)) hA (acons (dv 0) anil))))) (sone (sraise (ce_NoWeights T) rfl tk)) snil)), fun as Q h => ?_⟩
  unfold S_need_weights at h
  split at h
  · unfold q_need_weights at h
    rename_i x0
    refine at_env (b := [.dat x0]) rfl ?_
    exact Eq.mp (by kernel_rfl) h
  · exact h.elim
theorem ok_need_weights (T : Tp K mg) (D_are_weights : Dn P w K mg base Tb "are_weights" 3 ["thing"] S_are_weights) : DnX P w K mg base Tb "need_weights" 4 ["thing"] S_need_weights := by
  obtain ⟨kV, doc, pm, an, cdv, ct, Fn⟩ := T.fun_ "need_weights" (top 37) 4 75
  exact ⟨⟨_, fg_need_weights T D_are_weights Fn, Fn.binds (ps := ["thing"]) fun _ _ _ _ _ _ us hl => match us, hl with | [_], _ => rfl⟩, T.glo "need_weights" 19, T.keep "need_weights" 75⟩
def kk_need_number : RT → (PyData → Prop) := fun R v => R (.dat v) []
def S_need_number : DSpX := fun as Q E => match as with
  | [.dat x0] => q_need_number x0 (kk_need_number Q) E
  | _ => False
theorem len_need_number (as : List SD) (Q : SD → List SD → Prop) (E : Str → Prop) (h : S_need_number as Q E) : as.length = 1 := by
  unfold S_need_number at h
  split at h
  · rfl
  · exact h.elim
theorem nc_need_number (as : List SD) (Q : SD → List SD → Prop) (E : Str → Prop) (h : S_need_number as Q E) : NoCel as := by
  intro i p xs e
  unfold S_need_number at h
  split at h
  · exact absurd e (no_cel (ds := [_]) i p xs)
  · exact h.elim
def N_need_number : List Str := ["thing"]
theorem sc_need_number : FnScope N_need_number ["thing"] (defScope (top 38)) := ⟨rfl, rfl, rfl, by decide +kernel, rfl, by decide +kernel, by decide +kernel⟩
theorem fg_need_number (T : Tp K mg) (D_is_from : Dn P w K mg base Tb "is_from" 2 ["thing", "least"] S_is_from) {fd : FuncData} (Fn : Fun K "need_number" "need_number" (top 38) (He.ga K "need_number") fd) : FnX P w K mg base Tb 3 (He.ga K "need_number") fd ["thing"] S_need_number := by
  refine dfnX Fn sc_need_number len_need_number nc_need_number fun Ec cdv A outer s H E tk po hr hA => ⟨_, (sone (sif (tnot (dtest (dfrz (dcn D_is_from (hr.mono (by decide)) hA (acons (dv 0) (acons di anil)))))) (sone (sraise (ce_NoNumber T) rfl tk)) snil)), fun as Q h => ?_⟩
  unfold S_need_number at h
  split at h
  · unfold q_need_number at h
    rename_i x0
    refine at_env (b := [.dat x0]) rfl ?_
    exact Eq.mp (by kernel_rfl) h
  · exact h.elim
theorem ok_need_number (T : Tp K mg) (D_is_from : Dn P w K mg base Tb "is_from" 2 ["thing", "least"] S_is_from) : DnX P w K mg base Tb "need_number" 3 ["thing"] S_need_number := by
  obtain ⟨kV, doc, pm, an, cdv, ct, Fn⟩ := T.fun_ "need_number" (top 38) 5 76
  exact ⟨⟨_, fg_need_number T D_is_from Fn, Fn.binds (ps := ["thing"]) fun _ _ _ _ _ _ us hl => match us, hl with | [_], _ => rfl⟩, T.glo "need_number" 20, T.keep "need_number" 76⟩
def kk_stands_ahead : RT → (PyData → Prop) := fun R v => R (.dat v) []
def S_stands_ahead : DSp := fun as Q => match as with
  | [.dat x0, .dat x1, .dat x2] => q_stands_ahead x0 x1 x2 (kk_stands_ahead Q)
  | _ => False
theorem len_stands_ahead (as : List SD) (Q : SD → List SD → Prop) (h : S_stands_ahead as Q) : as.length = 3 := by
  unfold S_stands_ahead at h
  split at h
  · rfl
  · exact h.elim
theorem cels_stands_ahead : CelsIn 0 S_stands_ahead := by
  intro as Q h i p xs e
  unfold S_stands_ahead at h
  split at h
  · exact absurd e (no_cel (ds := [_, _, _]) i p xs)
  · exact h.elim
def N_stands_ahead : List Str := ["weights", "one", "other", "mine", "theirs"]
theorem sc_stands_ahead : FnScope N_stands_ahead ["weights", "one", "other"] (defScope (top 39)) := ⟨rfl, rfl, rfl, by decide +kernel, rfl, by decide +kernel, by decide +kernel⟩
theorem fg_stands_ahead (T : Tp K mg)  {fd : FuncData} (Fn : Fun K "stands_ahead" "stands_ahead" (top 39) (He.ga K "stands_ahead") fd) : FnG P w K mg base Tb 1 (He.ga K "stands_ahead") fd ["weights", "one", "other"] S_stands_ahead := by
  refine dfn 0 Fn sc_stands_ahead len_stands_ahead cels_stands_ahead fun cdv A outer s H hr hA => ⟨_, (scons (sset 3 sc_stands_ahead.nd (dx (dmul (dadd (dmul di (dixP (dv 1) di)) di) (dixP (dv 0) (dixP (dv 2) di))))) (scons (sset 4 sc_stands_ahead.nd (dx (dmul (dadd (dmul di (dixP (dv 2) di)) di) (dixP (dv 0) (dixP (dv 1) di))))) (sone (sret (m := 0) (dx (dorV (dcmp op_ltA opr_ltA (dv 3) (dv 4) (nomark _)) (done (dandV (dcmp (op_eqE hr.units) opd_eq (dv 3) (dv 4) (nomark _)) (done (dcmp op_ltA opr_ltA (dixP (dv 1) di) (dixP (dv 2) di) (nomark _))))))))))), fun as Q h => ?_⟩
  unfold S_stands_ahead at h
  split at h
  · unfold q_stands_ahead at h
    rename_i x0 x1 x2
    refine at_env (b := [.dat x0, .dat x1, .dat x2, .un, .un]) rfl ?_
    exact Eq.mp (by kernel_rfl) h
  · exact h.elim
theorem ok_stands_ahead (T : Tp K mg)  : Dn P w K mg base Tb "stands_ahead" 1 ["weights", "one", "other"] S_stands_ahead := by
  obtain ⟨kV, doc, pm, an, cdv, ct, Fn⟩ := T.fun_ "stands_ahead" (top 39) 6 77
  exact ⟨⟨_, fg_stands_ahead T  Fn, Fn.binds (ps := ["weights", "one", "other"]) fun _ _ _ _ _ _ us hl => match us, hl with | [_, _, _], _ => rfl⟩, T.glo "stands_ahead" 21, T.keep "stands_ahead" 77⟩
def kk_ahead_of : RT → (PyData → Prop) := fun R v => R (.dat v) []
def S_ahead_of : DSp := fun as Q => match as with
  | [.dat x0, .dat x1, .dat x2, .dat x3] => q_ahead_of x0 x1 x2 x3 (kk_ahead_of Q)
  | _ => False
theorem len_ahead_of (as : List SD) (Q : SD → List SD → Prop) (h : S_ahead_of as Q) : as.length = 4 := by
  unfold S_ahead_of at h
  split at h
  · rfl
  · exact h.elim
theorem cels_ahead_of : CelsIn 0 S_ahead_of := by
  intro as Q h i p xs e
  unfold S_ahead_of at h
  split at h
  · exact absurd e (no_cel (ds := [_, _, _, _]) i p xs)
  · exact h.elim
def N_ahead_of : List Str := ["weights", "part", "j", "other", "reach"]
theorem sc_ahead_of : FnScope N_ahead_of ["weights", "part", "j", "other"] (defScope (top 40)) := ⟨rfl, rfl, rfl, by decide +kernel, rfl, by decide +kernel, by decide +kernel⟩
theorem fg_ahead_of (T : Tp K mg)  {fd : FuncData} (Fn : Fun K "ahead_of" "ahead_of" (top 40) (He.ga K "ahead_of") fd) : FnG P w K mg base Tb 1 (He.ga K "ahead_of") fd ["weights", "part", "j", "other"] S_ahead_of := by
  refine dfn 0 Fn sc_ahead_of len_ahead_of cels_ahead_of fun cdv A outer s H hr hA => ⟨_, (scons (sset 4 sc_ahead_of.nd (dx (dmul (dadd (dmul di (dv 2)) di) (dixP (dv 0) (dv 3))))) (ssforget [2] (scons (sif (dcmpT op_gt opr_gt (dv 3) (dv 1) (nomark _)) (sone (saug 4 ip_sub sc_ahead_of.nd di)) snil) (ssforget [3] (scons (sif (dcmpT op_ltA opr_ltA (dv 4) di (nomark _)) (sone (sret (m := 0) (dx di))) snil) (sone (sret (m := 0) (dx (ddiv (dadd (ddiv (dv 4) (dixP (dv 0) (dv 1))) di) di))))))))), fun as Q h => ?_⟩
  unfold S_ahead_of at h
  split at h
  · unfold q_ahead_of at h
    rename_i x0 x1 x2 x3
    refine at_env (b := [.dat x0, .dat x1, .dat x2, .dat x3, .un]) rfl ?_
    exact Eq.mp (by kernel_rfl) h
  · exact h.elim
theorem ok_ahead_of (T : Tp K mg)  : Dn P w K mg base Tb "ahead_of" 1 ["weights", "part", "j", "other"] S_ahead_of := by
  obtain ⟨kV, doc, pm, an, cdv, ct, Fn⟩ := T.fun_ "ahead_of" (top 40) 7 78
  exact ⟨⟨_, fg_ahead_of T  Fn, Fn.binds (ps := ["weights", "part", "j", "other"]) fun _ _ _ _ _ _ us hl => match us, hl with | [_, _, _, _], _ => rfl⟩, T.glo "ahead_of" 22, T.keep "ahead_of" 78⟩
def kk_number_in : RT → (PyData → Prop) := fun R v => R (.dat v) []
def em_number_in_1 (i : PyData × PyData × PyData) (s : Unit) : List SD := [.dat i.1, .dat i.2.1, .dat i.2.2, .un]
def de_number_in_1 : List SD → Option ((PyData × PyData × PyData) × (Unit))
  | [.dat x0, .dat x1, .dat x2, .un] => some ((x0, x1, x2), ())
  | _ => none
theorem hde_number_in_1 : ∀ env i s, de_number_in_1 env = some (i, s) → env = em_number_in_1 i s := by
  intro env i s h
  unfold de_number_in_1 at h
  split at h
  · cases h; rfl
  · cases h
def S_number_in : DSp := fun as Q => match as with
  | [.dat x0, .dat x1, .dat x2] => q_number_in x0 x1 x2 (kk_number_in Q)
  | _ => False
theorem len_number_in (as : List SD) (Q : SD → List SD → Prop) (h : S_number_in as Q) : as.length = 3 := by
  unfold S_number_in at h
  split at h
  · rfl
  · exact h.elim
theorem cels_number_in : CelsIn 0 S_number_in := by
  intro as Q h i p xs e
  unfold S_number_in at h
  split at h
  · exact absurd e (no_cel (ds := [_, _, _]) i p xs)
  · exact h.elim
def N_number_in : List Str := ["weights", "part", "j", "other"]
theorem sc_number_in : FnScope N_number_in ["weights", "part", "j"] (defScope (top 41)) := ⟨rfl, rfl, rfl, by decide +kernel, rfl, by decide +kernel, by decide +kernel⟩
theorem fg_number_in (T : Tp K mg) (D_ahead_of : Dn P w K mg base Tb "ahead_of" 1 ["weights", "part", "j", "other"] S_ahead_of) {fd : FuncData} (Fn : Fun K "number_in" "number_in" (top 41) (He.ga K "number_in") fd) : FnG P w K mg base Tb 2 (He.ga K "number_in") fd ["weights", "part", "j"] S_number_in := by
  refine dfn 0 Fn sc_number_in len_number_in cels_number_in fun cdv A outer s H hr hA => ⟨_, (sone (sret (m := 0) (dx (dadd (dv 2) (dsum (m_sum T) rfl (acons (dfrz (dlc (dec := de_number_in_1) (emb := em_number_in_1) (qb := qb_number_in_1) [("other", 3)] (.one 3) hde_number_in_1 rfl sc_number_in.nd (irange1 (m_range T) (acons (dlen (m_len T) (acons (dv 0) anil)) anil)) (blkOk_by (own := [("other", 3)]) (N := N_number_in) (sc := defScope (top 41)) (by decide +kernel)) (fun _ _ _ _ _ => pg_name (i := 3) sc_number_in.nd rfl (Or.inl rfl)) (fun _ _ _ _ _ => tif1 (dcmpT (op_neE hr.units) opd_ne (dv 3) (dv 1) (nomark _))) (fun _ _ _ _ _ => (dfrz (dcn D_ahead_of (hr.mono (by decide)) hA (acons (dv 0) (acons (dv 1) (acons (dv 2) (acons (dv 3) anil))))))) (fun d i s sk yd h => Eq.mp (by kernel_rfl) h))) anil)))))), fun as Q h => ?_⟩
  unfold S_number_in at h
  split at h
  · unfold q_number_in at h
    rename_i x0 x1 x2
    refine at_env (b := [.dat x0, .dat x1, .dat x2, .un]) rfl ?_
    exact Eq.mp (by kernel_rfl) h
  · exact h.elim
theorem ok_number_in (T : Tp K mg) (D_ahead_of : Dn P w K mg base Tb "ahead_of" 1 ["weights", "part", "j", "other"] S_ahead_of) : Dn P w K mg base Tb "number_in" 2 ["weights", "part", "j"] S_number_in := by
  obtain ⟨kV, doc, pm, an, cdv, ct, Fn⟩ := T.fun_ "number_in" (top 41) 8 79
  exact ⟨⟨_, fg_number_in T D_ahead_of Fn, Fn.binds (ps := ["weights", "part", "j"]) fun _ _ _ _ _ _ us hl => match us, hl with | [_, _, _], _ => rfl⟩, T.glo "number_in" 23, T.keep "number_in" 79⟩
def kk_number_of : RT → (PyData → Prop) := fun R v => R (.dat v) []
def S_number_of : DSpX := fun as Q E => match as with
  | [.dat x0, .dat x1, .dat x2] => q_number_of x0 x1 x2 (kk_number_of Q) E
  | _ => False
theorem len_number_of (as : List SD) (Q : SD → List SD → Prop) (E : Str → Prop) (h : S_number_of as Q E) : as.length = 3 := by
  unfold S_number_of at h
  split at h
  · rfl
  · exact h.elim
theorem nc_number_of (as : List SD) (Q : SD → List SD → Prop) (E : Str → Prop) (h : S_number_of as Q E) : NoCel as := by
  intro i p xs e
  unfold S_number_of at h
  split at h
  · exact absurd e (no_cel (ds := [_, _, _]) i p xs)
  · exact h.elim
def N_number_of : List Str := ["weights", "part", "j"]
theorem sc_number_of : FnScope N_number_of ["weights", "part", "j"] (defScope (top 42)) := ⟨rfl, rfl, rfl, by decide +kernel, rfl, by decide +kernel, by decide +kernel⟩
theorem fg_number_of (T : Tp K mg) (D_is_within : Dn P w K mg base Tb "is_within" 2 ["thing", "least", "most"] S_is_within) (D_need_number : DnX P w K mg base Tb "need_number" 3 ["thing"] S_need_number) (D_need_weights : DnX P w K mg base Tb "need_weights" 4 ["thing"] S_need_weights) (D_number_in : Dn P w K mg base Tb "number_in" 2 ["weights", "part", "j"] S_number_in) {fd : FuncData} (Fn : Fun K "number_of" "number_of" (top 42) (He.ga K "number_of") fd) : FnX P w K mg base Tb 5 (He.ga K "number_of") fd ["weights", "part", "j"] S_number_of := by
  refine dfnX Fn sc_number_of len_number_of nc_number_of fun Ec cdv A outer s H E tk po hr hA => ⟨_, (scons (sexpr (dcnE D_need_weights (hr.mono (by decide)) hA tk (acons (dv 0) anil))) (scons (sif (tor (tnot (dtest (dfrz (dcn D_is_within (hr.mono (by decide)) hA (acons (dv 1) (acons di (acons (dsub (dlen (m_len T) (acons (dv 0) anil)) di) anil))))))) (tor1 (dcmpT (op_eqE hr.units) opd_eq (dixP (dv 0) (dv 1)) di (nomark _)))).pt (sone (sraise (ce_NoPart T) rfl tk)) snil) (scons (sexpr (dcnE D_need_number (hr.mono (by decide)) hA tk (acons (dv 2) anil))) (sone (sret (m := 0) (dx (dfrz (dcn D_number_in (hr.mono (by decide)) hA (acons (dv 0) (acons (dv 1) (acons (dv 2) anil))))))))))), fun as Q h => ?_⟩
  unfold S_number_of at h
  split at h
  · unfold q_number_of at h
    rename_i x0 x1 x2
    refine at_env (b := [.dat x0, .dat x1, .dat x2]) rfl ?_
    exact Eq.mp (by kernel_rfl) h
  · exact h.elim
theorem ok_number_of (T : Tp K mg) (D_is_within : Dn P w K mg base Tb "is_within" 2 ["thing", "least", "most"] S_is_within) (D_need_number : DnX P w K mg base Tb "need_number" 3 ["thing"] S_need_number) (D_need_weights : DnX P w K mg base Tb "need_weights" 4 ["thing"] S_need_weights) (D_number_in : Dn P w K mg base Tb "number_in" 2 ["weights", "part", "j"] S_number_in) : DnX P w K mg base Tb "number_of" 5 ["weights", "part", "j"] S_number_of := by
  obtain ⟨kV, doc, pm, an, cdv, ct, Fn⟩ := T.fun_ "number_of" (top 42) 9 80
  exact ⟨⟨_, fg_number_of T D_is_within D_need_number D_need_weights D_number_in Fn, Fn.binds (ps := ["weights", "part", "j"]) fun _ _ _ _ _ _ us hl => match us, hl with | [_, _, _], _ => rfl⟩, T.glo "number_of" 24, T.keep "number_of" 80⟩
def kk_parts_of : RT → (PyData → Prop) := fun R v => R (.dat v) []
def em_parts_of_1 (i : PyData) (s : Unit) : List SD := [.dat i, .un, .un]
def de_parts_of_1 : List SD → Option ((PyData) × (Unit))
  | [.dat x0, .un, .un] => some (x0, ())
  | _ => none
theorem hde_parts_of_1 : ∀ env i s, de_parts_of_1 env = some (i, s) → env = em_parts_of_1 i s := by
  intro env i s h
  unfold de_parts_of_1 at h
  split at h
  · cases h; rfl
  · cases h
def S_parts_of : DSp := fun as Q => match as with
  | [.dat x0] => q_parts_of x0 (kk_parts_of Q)
  | _ => False
theorem len_parts_of (as : List SD) (Q : SD → List SD → Prop) (h : S_parts_of as Q) : as.length = 1 := by
  unfold S_parts_of at h
  split at h
  · rfl
  · exact h.elim
theorem cels_parts_of : CelsIn 0 S_parts_of := by
  intro as Q h i p xs e
  unfold S_parts_of at h
  split at h
  · exact absurd e (no_cel (ds := [_]) i p xs)
  · exact h.elim
def N_parts_of : List Str := ["weights", "part", "weight"]
theorem sc_parts_of : FnScope N_parts_of ["weights"] (defScope (top 43)) := ⟨rfl, rfl, rfl, by decide +kernel, rfl, by decide +kernel, by decide +kernel⟩
theorem fg_parts_of (T : Tp K mg)  {fd : FuncData} (Fn : Fun K "parts_of" "parts_of" (top 43) (He.ga K "parts_of") fd) : FnG P w K mg base Tb 1 (He.ga K "parts_of") fd ["weights"] S_parts_of := by
  refine dfn 0 Fn sc_parts_of len_parts_of cels_parts_of fun cdv A outer s H hr hA => ⟨_, (sone (sret (m := 0) (dx (dfrz (dlc (dec := de_parts_of_1) (emb := em_parts_of_1) (qb := qb_parts_of_1) [("part", 1), ("weight", 2)] (.tup [1, 2]) hde_parts_of_1 rfl sc_parts_of.nd (ienum (m_enumerate T) (acons (dv 0) anil)) (blkOk_by (own := [("part", 1), ("weight", 2)]) (N := N_parts_of) (sc := defScope (top 43)) (by decide +kernel)) (fun _ _ _ _ _ => pg_tup rfl (pgs_cons (pg_name (i := 1) sc_parts_of.nd rfl (Or.inl rfl)) (pgs_cons (pg_name (i := 2) sc_parts_of.nd rfl (Or.inl rfl)) pgs_nil))) (fun _ _ _ _ _ => tif1 (dcmpT op_gt opr_gt (dv 2) di (nomark _))) (fun _ _ _ _ _ => (dv 1)) (fun d i s sk yd h => Eq.mp (by kernel_rfl) h)))))), fun as Q h => ?_⟩
  unfold S_parts_of at h
  split at h
  · unfold q_parts_of at h
    rename_i x0
    refine at_env (b := [.dat x0, .un, .un]) rfl ?_
    exact Eq.mp (by kernel_rfl) h
  · exact h.elim
theorem ok_parts_of (T : Tp K mg)  : Dn P w K mg base Tb "parts_of" 1 ["weights"] S_parts_of := by
  obtain ⟨kV, doc, pm, an, cdv, ct, Fn⟩ := T.fun_ "parts_of" (top 43) 10 81
  exact ⟨⟨_, fg_parts_of T  Fn, Fn.binds (ps := ["weights"]) fun _ _ _ _ _ _ us hl => match us, hl with | [_], _ => rfl⟩, T.glo "parts_of" 25, T.keep "parts_of" 81⟩
def kk_next_part : RT → (PyData → Prop) := fun R v => R (.dat v) []
def em_next_part_1 (i : PyData × PyData) (s : PyData) : List SD := [.dat i.1, .dat i.2, .dat s, .un]
def de_next_part_1 : List SD → Option ((PyData × PyData) × (PyData))
  | [.dat x0, .dat x1, .dat x2, .un] => some ((x0, x1), x2)
  | _ => none
theorem hde_next_part_1 : ∀ env i s, de_next_part_1 env = some (i, s) → env = em_next_part_1 i s := by
  intro env i s h
  unfold de_next_part_1 at h
  split at h
  · cases h; rfl
  · cases h
def S_next_part : DSp := fun as Q => match as with
  | [.dat x0, .dat x1] => q_next_part x0 x1 (kk_next_part Q)
  | _ => False
theorem len_next_part (as : List SD) (Q : SD → List SD → Prop) (h : S_next_part as Q) : as.length = 2 := by
  unfold S_next_part at h
  split at h
  · rfl
  · exact h.elim
theorem cels_next_part : CelsIn 0 S_next_part := by
  intro as Q h i p xs e
  unfold S_next_part at h
  split at h
  · exact absurd e (no_cel (ds := [_, _]) i p xs)
  · exact h.elim
def N_next_part : List Str := ["weights", "counts", "found", "part"]
theorem sc_next_part : FnScope N_next_part ["weights", "counts"] (defScope (top 44)) := ⟨rfl, rfl, rfl, by decide +kernel, rfl, by decide +kernel, by decide +kernel⟩
theorem fg_next_part (T : Tp K mg) (D_parts_of : Dn P w K mg base Tb "parts_of" 1 ["weights"] S_parts_of) (D_stands_ahead : Dn P w K mg base Tb "stands_ahead" 1 ["weights", "one", "other"] S_stands_ahead) {fd : FuncData} (Fn : Fun K "next_part" "next_part" (top 44) (He.ga K "next_part") fd) : FnG P w K mg base Tb 2 (He.ga K "next_part") fd ["weights", "counts"] S_next_part := by
  refine dfn 0 Fn sc_next_part len_next_part cels_next_part fun cdv A outer s H hr hA => ⟨_, (scons (sset 2 sc_next_part.nd (dx dn)) (scons (sforQ [3] de_next_part_1 em_next_part_1 kk_next_part qb_next_part_1 hde_next_part_1 PassesOwn.never rfl (iseq (dfrz (dcn D_parts_of (hr.mono (by decide)) hA (acons (dv 0) anil)))) (gn 3 sc_next_part.nd) (sone (sif (tor (tisN (dv 2)) (tor1 (dtest (dfrz (dcn D_stands_ahead (hr.mono (by decide)) hA (acons (dv 0) (acons (dtup (acons (dv 3) (acons (dixP (dv 1) (dv 3)) anil))) (acons (dtup (acons (dv 2) (acons (dixP (dv 1) (dv 2)) anil))) anil)))))))).pt (sone (sset 2 sc_next_part.nd (dx (dv 3)))) snil)) (fun R d i s nx bk h => Eq.mp (by kernel_rfl) h)) (sone (sret (m := 0) (dx (dv 2)))))), fun as Q h => ?_⟩
  unfold S_next_part at h
  split at h
  · unfold q_next_part at h
    rename_i x0 x1
    refine at_env (b := [.dat x0, .dat x1, .un, .un]) rfl ?_
    exact Eq.mp (by kernel_rfl) h
  · exact h.elim
theorem ok_next_part (T : Tp K mg) (D_parts_of : Dn P w K mg base Tb "parts_of" 1 ["weights"] S_parts_of) (D_stands_ahead : Dn P w K mg base Tb "stands_ahead" 1 ["weights", "one", "other"] S_stands_ahead) : Dn P w K mg base Tb "next_part" 2 ["weights", "counts"] S_next_part := by
  obtain ⟨kV, doc, pm, an, cdv, ct, Fn⟩ := T.fun_ "next_part" (top 44) 11 82
  exact ⟨⟨_, fg_next_part T D_parts_of D_stands_ahead Fn, Fn.binds (ps := ["weights", "counts"]) fun _ _ _ _ _ _ us hl => match us, hl with | [_, _], _ => rfl⟩, T.glo "next_part" 26, T.keep "next_part" 82⟩
def kk_last_part : RT → (PyData → Prop) := fun R v => R (.dat v) []
def em_last_part_1 (i : PyData × PyData) (s : PyData) : List SD := [.dat i.1, .dat i.2, .dat s, .un]
def de_last_part_1 : List SD → Option ((PyData × PyData) × (PyData))
  | [.dat x0, .dat x1, .dat x2, .un] => some ((x0, x1), x2)
  | _ => none
theorem hde_last_part_1 : ∀ env i s, de_last_part_1 env = some (i, s) → env = em_last_part_1 i s := by
  intro env i s h
  unfold de_last_part_1 at h
  split at h
  · cases h; rfl
  · cases h
def S_last_part : DSp := fun as Q => match as with
  | [.dat x0, .dat x1] => q_last_part x0 x1 (kk_last_part Q)
  | _ => False
theorem len_last_part (as : List SD) (Q : SD → List SD → Prop) (h : S_last_part as Q) : as.length = 2 := by
  unfold S_last_part at h
  split at h
  · rfl
  · exact h.elim
theorem cels_last_part : CelsIn 0 S_last_part := by
  intro as Q h i p xs e
  unfold S_last_part at h
  split at h
  · exact absurd e (no_cel (ds := [_, _]) i p xs)
  · exact h.elim
def N_last_part : List Str := ["weights", "counts", "found", "part"]
theorem sc_last_part : FnScope N_last_part ["weights", "counts"] (defScope (top 45)) := ⟨rfl, rfl, rfl, by decide +kernel, rfl, by decide +kernel, by decide +kernel⟩
theorem fg_last_part (T : Tp K mg) (D_parts_of : Dn P w K mg base Tb "parts_of" 1 ["weights"] S_parts_of) (D_stands_ahead : Dn P w K mg base Tb "stands_ahead" 1 ["weights", "one", "other"] S_stands_ahead) {fd : FuncData} (Fn : Fun K "last_part" "last_part" (top 45) (He.ga K "last_part") fd) : FnG P w K mg base Tb 2 (He.ga K "last_part") fd ["weights", "counts"] S_last_part := by
  refine dfn 0 Fn sc_last_part len_last_part cels_last_part fun cdv A outer s H hr hA => ⟨_, (scons (sset 2 sc_last_part.nd (dx dn)) (scons (sforQ [3] de_last_part_1 em_last_part_1 kk_last_part qb_last_part_1 hde_last_part_1 PassesOwn.never rfl (iseq (dfrz (dcn D_parts_of (hr.mono (by decide)) hA (acons (dv 0) anil)))) (gn 3 sc_last_part.nd) (sone (sif (dcmpT op_gt opr_gt (dixP (dv 1) (dv 3)) di (nomark _)) (sone (sif (tor (tisN (dv 2)) (tor1 (dtest (dfrz (dcn D_stands_ahead (hr.mono (by decide)) hA (acons (dv 0) (acons (dtup (acons (dv 2) (acons (dsub (dixP (dv 1) (dv 2)) di) anil))) (acons (dtup (acons (dv 3) (acons (dsub (dixP (dv 1) (dv 3)) di) anil))) anil)))))))).pt (sone (sset 2 sc_last_part.nd (dx (dv 3)))) snil)) snil)) (fun R d i s nx bk h => Eq.mp (by kernel_rfl) h)) (sone (sret (m := 0) (dx (dv 2)))))), fun as Q h => ?_⟩
  unfold S_last_part at h
  split at h
  · unfold q_last_part at h
    rename_i x0 x1
    refine at_env (b := [.dat x0, .dat x1, .un, .un]) rfl ?_
    exact Eq.mp (by kernel_rfl) h
  · exact h.elim
theorem ok_last_part (T : Tp K mg) (D_parts_of : Dn P w K mg base Tb "parts_of" 1 ["weights"] S_parts_of) (D_stands_ahead : Dn P w K mg base Tb "stands_ahead" 1 ["weights", "one", "other"] S_stands_ahead) : Dn P w K mg base Tb "last_part" 2 ["weights", "counts"] S_last_part := by
  obtain ⟨kV, doc, pm, an, cdv, ct, Fn⟩ := T.fun_ "last_part" (top 45) 12 83
  exact ⟨⟨_, fg_last_part T D_parts_of D_stands_ahead Fn, Fn.binds (ps := ["weights", "counts"]) fun _ _ _ _ _ _ us hl => match us, hl with | [_, _], _ => rfl⟩, T.glo "last_part" 27, T.keep "last_part" 83⟩
def kk_first_counts : RT → (PyData → Prop) := fun R v => R (.dat v) []
def em_first_counts_1 (i : PyData × PyData × PyData) (s : Unit) : List SD := [.dat i.1, .dat i.2.1, .dat i.2.2, .un, .un]
def de_first_counts_1 : List SD → Option ((PyData × PyData × PyData) × (Unit))
  | [.dat x0, .dat x1, .dat x2, .un, .un] => some ((x0, x1, x2), ())
  | _ => none
theorem hde_first_counts_1 : ∀ env i s, de_first_counts_1 env = some (i, s) → env = em_first_counts_1 i s := by
  intro env i s h
  unfold de_first_counts_1 at h
  split at h
  · cases h; rfl
  · cases h
def em_first_counts_2 (i : PyData × PyData) (s : List PyData) : List SD := [.dat i.1, .dat i.2, .un, .cel false s, .un]
def de_first_counts_2 : List SD → Option ((PyData × PyData) × (List PyData))
  | [.dat x0, .dat x1, .un, .cel false x3, .un] => some ((x0, x1), x3)
  | _ => none
theorem hde_first_counts_2 : ∀ env i s, de_first_counts_2 env = some (i, s) → env = em_first_counts_2 i s := by
  intro env i s h
  unfold de_first_counts_2 at h
  split at h
  · cases h; rfl
  · cases h
def em_first_counts_3 (i : PyData × PyData) (s : List PyData) : List SD := [.dat i.1, .dat i.2, .un, .cel false s, .un]
def de_first_counts_3 : List SD → Option ((PyData × PyData) × (List PyData))
  | [.dat x0, .dat x1, .un, .cel false x3, .un] => some ((x0, x1), x3)
  | _ => none
theorem hde_first_counts_3 : ∀ env i s, de_first_counts_3 env = some (i, s) → env = em_first_counts_3 i s := by
  intro env i s h
  unfold de_first_counts_3 at h
  split at h
  · cases h; rfl
  · cases h
def S_first_counts : DSp := fun as Q => match as with
  | [.dat x0, .dat x1] => q_first_counts x0 x1 (kk_first_counts Q)
  | _ => False
theorem len_first_counts (as : List SD) (Q : SD → List SD → Prop) (h : S_first_counts as Q) : as.length = 2 := by
  unfold S_first_counts at h
  split at h
  · rfl
  · exact h.elim
theorem cels_first_counts : CelsIn 0 S_first_counts := by
  intro as Q h i p xs e
  unfold S_first_counts at h
  split at h
  · exact absurd e (no_cel (ds := [_, _]) i p xs)
  · exact h.elim
def N_first_counts : List Str := ["weights", "n", "together", "counts", "weight"]
theorem sc_first_counts : FnScope N_first_counts ["weights", "n"] (defScope (top 46)) := ⟨rfl, rfl, rfl, by decide +kernel, rfl, by decide +kernel, by decide +kernel⟩
theorem fg_first_counts (T : Tp K mg) (D_last_part : Dn P w K mg base Tb "last_part" 2 ["weights", "counts"] S_last_part) (D_next_part : Dn P w K mg base Tb "next_part" 2 ["weights", "counts"] S_next_part) {fd : FuncData} (Fn : Fun K "first_counts" "first_counts" (top 46) (He.ga K "first_counts") fd) : FnG P w K mg base Tb 3 (He.ga K "first_counts") fd ["weights", "n"] S_first_counts := by
  refine dfn 0 Fn sc_first_counts len_first_counts cels_first_counts fun cdv A outer s H hr hA => ⟨_, (scons (sset 2 sc_first_counts.nd (dx (dsum (m_sum T) rfl (acons (dv 0) anil)))) (scons (ssetLc (dec := de_first_counts_1) (emb := em_first_counts_1) (qb := qb_first_counts_1) 3 [("weight", 4)] (.one 4) hde_first_counts_1 rfl sc_first_counts.nd (iseq (dv 0)) (blkOk_by (own := [("weight", 4)]) (N := N_first_counts) (sc := defScope (top 46)) (by decide +kernel)) (fun _ _ _ _ _ => pg_name (i := 4) sc_first_counts.nd rfl (Or.inl rfl)) (fun _ _ _ _ _ => tyes) (fun _ _ _ _ _ => (ddiv (dadd (ddiv (dmul (dmul di (dv 1)) (dv 4)) (dv 2)) di) di)) (fun d i s sk yd h => Eq.mp (by kernel_rfl) h) (sw_true rfl rfl rfl (by decide +kernel))) (ssforget [2] (scons (swhileQ [] de_first_counts_2 em_first_counts_2 kk_first_counts qb_first_counts_2 hde_first_counts_2 PassesOwn.never (dcmpT op_ltA opr_ltA (dbor (dsum (m_sum T) rfl (acons (dv 3) anil))) (dv 1) (nomark _)) (sone (saugC 3 ip_add (dbor (dfrz (dcn D_next_part (hr.mono (by decide)) hA (acons (dv 0) (acons (dv 3) anil))))) di)) (fun R i s nx bk h => Eq.mp (by kernel_rfl) h)) (scons (swhileQ [] de_first_counts_3 em_first_counts_3 kk_first_counts qb_first_counts_3 hde_first_counts_3 PassesOwn.never (dcmpT op_gt opr_gt (dbor (dsum (m_sum T) rfl (acons (dv 3) anil))) (dv 1) (nomark _)) (sone (saugC 3 ip_sub (dbor (dfrz (dcn D_last_part (hr.mono (by decide)) hA (acons (dv 0) (acons (dv 3) anil))))) di)) (fun R i s nx bk h => Eq.mp (by kernel_rfl) h)) (sone (sret (m := 0) (dx (dtupC 3 (m_tuple T)))))))))), fun as Q h => ?_⟩
  unfold S_first_counts at h
  split at h
  · unfold q_first_counts at h
    rename_i x0 x1
    refine at_env (b := [.dat x0, .dat x1, .un, .un, .un]) rfl ?_
    exact Eq.mp (by kernel_rfl) h
  · exact h.elim
theorem ok_first_counts (T : Tp K mg) (D_last_part : Dn P w K mg base Tb "last_part" 2 ["weights", "counts"] S_last_part) (D_next_part : Dn P w K mg base Tb "next_part" 2 ["weights", "counts"] S_next_part) : Dn P w K mg base Tb "first_counts" 3 ["weights", "n"] S_first_counts := by
  obtain ⟨kV, doc, pm, an, cdv, ct, Fn⟩ := T.fun_ "first_counts" (top 46) 13 84
  exact ⟨⟨_, fg_first_counts T D_last_part D_next_part Fn, Fn.binds (ps := ["weights", "n"]) fun _ _ _ _ _ _ us hl => match us, hl with | [_, _], _ => rfl⟩, T.glo "first_counts" 28, T.keep "first_counts" 84⟩
def kk_counts_of : RT → (PyData → Prop) := fun R v => R (.dat v) []
def S_counts_of : DSpX := fun as Q E => match as with
  | [.dat x0, .dat x1] => q_counts_of x0 x1 (kk_counts_of Q) E
  | _ => False
theorem len_counts_of (as : List SD) (Q : SD → List SD → Prop) (E : Str → Prop) (h : S_counts_of as Q E) : as.length = 2 := by
  unfold S_counts_of at h
  split at h
  · rfl
  · exact h.elim
theorem nc_counts_of (as : List SD) (Q : SD → List SD → Prop) (E : Str → Prop) (h : S_counts_of as Q E) : NoCel as := by
  intro i p xs e
  unfold S_counts_of at h
  split at h
  · exact absurd e (no_cel (ds := [_, _]) i p xs)
  · exact h.elim
def N_counts_of : List Str := ["weights", "n"]
theorem sc_counts_of : FnScope N_counts_of ["weights", "n"] (defScope (top 47)) := ⟨rfl, rfl, rfl, by decide +kernel, rfl, by decide +kernel, by decide +kernel⟩
theorem fg_counts_of (T : Tp K mg) (D_first_counts : Dn P w K mg base Tb "first_counts" 3 ["weights", "n"] S_first_counts) (D_need_number : DnX P w K mg base Tb "need_number" 3 ["thing"] S_need_number) (D_need_weights : DnX P w K mg base Tb "need_weights" 4 ["thing"] S_need_weights) {fd : FuncData} (Fn : Fun K "counts_of" "counts_of" (top 47) (He.ga K "counts_of") fd) : FnX P w K mg base Tb 5 (He.ga K "counts_of") fd ["weights", "n"] S_counts_of := by
  refine dfnX Fn sc_counts_of len_counts_of nc_counts_of fun Ec cdv A outer s H E tk po hr hA => ⟨_, (scons (sexpr (dcnE D_need_weights (hr.mono (by decide)) hA tk (acons (dv 0) anil))) (scons (sexpr (dcnE D_need_number (hr.mono (by decide)) hA tk (acons (dv 1) anil))) (sone (sret (m := 0) (dx (dfrz (dcn D_first_counts (hr.mono (by decide)) hA (acons (dv 0) (acons (dv 1) anil))))))))), fun as Q h => ?_⟩
  unfold S_counts_of at h
  split at h
  · unfold q_counts_of at h
    rename_i x0 x1
    refine at_env (b := [.dat x0, .dat x1]) rfl ?_
    exact Eq.mp (by kernel_rfl) h
  · exact h.elim
theorem ok_counts_of (T : Tp K mg) (D_first_counts : Dn P w K mg base Tb "first_counts" 3 ["weights", "n"] S_first_counts) (D_need_number : DnX P w K mg base Tb "need_number" 3 ["thing"] S_need_number) (D_need_weights : DnX P w K mg base Tb "need_weights" 4 ["thing"] S_need_weights) : DnX P w K mg base Tb "counts_of" 5 ["weights", "n"] S_counts_of := by
  obtain ⟨kV, doc, pm, an, cdv, ct, Fn⟩ := T.fun_ "counts_of" (top 47) 14 85
  exact ⟨⟨_, fg_counts_of T D_first_counts D_need_number D_need_weights Fn, Fn.binds (ps := ["weights", "n"]) fun _ _ _ _ _ _ us hl => match us, hl with | [_, _], _ => rfl⟩, T.glo "counts_of" 29, T.keep "counts_of" 85⟩
def kk_penny_in : RT → (PyData → Prop) := fun R v => R (.dat v) []
def S_penny_in : DSp := fun as Q => match as with
  | [.dat x0, .dat x1] => q_penny_in x0 x1 (kk_penny_in Q)
  | _ => False
theorem len_penny_in (as : List SD) (Q : SD → List SD → Prop) (h : S_penny_in as Q) : as.length = 2 := by
  unfold S_penny_in at h
  split at h
  · rfl
  · exact h.elim
theorem cels_penny_in : CelsIn 0 S_penny_in := by
  intro as Q h i p xs e
  unfold S_penny_in at h
  split at h
  · exact absurd e (no_cel (ds := [_, _]) i p xs)
  · exact h.elim
def N_penny_in : List Str := ["weights", "number", "counts", "part"]
theorem sc_penny_in : FnScope N_penny_in ["weights", "number"] (defScope (top 48)) := ⟨rfl, rfl, rfl, by decide +kernel, rfl, by decide +kernel, by decide +kernel⟩
theorem fg_penny_in (T : Tp K mg) (D_first_counts : Dn P w K mg base Tb "first_counts" 3 ["weights", "n"] S_first_counts) (D_next_part : Dn P w K mg base Tb "next_part" 2 ["weights", "counts"] S_next_part) {fd : FuncData} (Fn : Fun K "penny_in" "penny_in" (top 48) (He.ga K "penny_in") fd) : FnG P w K mg base Tb 4 (He.ga K "penny_in") fd ["weights", "number"] S_penny_in := by
  refine dfn 0 Fn sc_penny_in len_penny_in cels_penny_in fun cdv A outer s H hr hA => ⟨_, (scons (sset 2 sc_penny_in.nd (dcn D_first_counts (hr.mono (by decide)) hA (acons (dv 0) (acons (dv 1) anil)))) (scons (sset 3 sc_penny_in.nd (dcn D_next_part (hr.mono (by decide)) hA (acons (dv 0) (acons (dv 2) anil)))) (sone (sret (m := 0) (dx (dtup (acons (dv 3) (acons (dixP (dv 2) (dv 3)) anil)))))))), fun as Q h => ?_⟩
  unfold S_penny_in at h
  split at h
  · unfold q_penny_in at h
    rename_i x0 x1
    refine at_env (b := [.dat x0, .dat x1, .un, .un]) rfl ?_
    exact Eq.mp (by kernel_rfl) h
  · exact h.elim
theorem ok_penny_in (T : Tp K mg) (D_first_counts : Dn P w K mg base Tb "first_counts" 3 ["weights", "n"] S_first_counts) (D_next_part : Dn P w K mg base Tb "next_part" 2 ["weights", "counts"] S_next_part) : Dn P w K mg base Tb "penny_in" 4 ["weights", "number"] S_penny_in := by
  obtain ⟨kV, doc, pm, an, cdv, ct, Fn⟩ := T.fun_ "penny_in" (top 48) 15 86
  exact ⟨⟨_, fg_penny_in T D_first_counts D_next_part Fn, Fn.binds (ps := ["weights", "number"]) fun _ _ _ _ _ _ us hl => match us, hl with | [_, _], _ => rfl⟩, T.glo "penny_in" 30, T.keep "penny_in" 86⟩
def kk_penny_at : RT → (PyData → Prop) := fun R v => R (.dat v) []
def S_penny_at : DSpX := fun as Q E => match as with
  | [.dat x0, .dat x1] => q_penny_at x0 x1 (kk_penny_at Q) E
  | _ => False
theorem len_penny_at (as : List SD) (Q : SD → List SD → Prop) (E : Str → Prop) (h : S_penny_at as Q E) : as.length = 2 := by
  unfold S_penny_at at h
  split at h
  · rfl
  · exact h.elim
theorem nc_penny_at (as : List SD) (Q : SD → List SD → Prop) (E : Str → Prop) (h : S_penny_at as Q E) : NoCel as := by
  intro i p xs e
  unfold S_penny_at at h
  split at h
  · exact absurd e (no_cel (ds := [_, _]) i p xs)
  · exact h.elim
def N_penny_at : List Str := ["weights", "number"]
theorem sc_penny_at : FnScope N_penny_at ["weights", "number"] (defScope (top 49)) := ⟨rfl, rfl, rfl, by decide +kernel, rfl, by decide +kernel, by decide +kernel⟩
theorem fg_penny_at (T : Tp K mg) (D_need_number : DnX P w K mg base Tb "need_number" 3 ["thing"] S_need_number) (D_need_weights : DnX P w K mg base Tb "need_weights" 4 ["thing"] S_need_weights) (D_penny_in : Dn P w K mg base Tb "penny_in" 4 ["weights", "number"] S_penny_in) {fd : FuncData} (Fn : Fun K "penny_at" "penny_at" (top 49) (He.ga K "penny_at") fd) : FnX P w K mg base Tb 5 (He.ga K "penny_at") fd ["weights", "number"] S_penny_at := by
  refine dfnX Fn sc_penny_at len_penny_at nc_penny_at fun Ec cdv A outer s H E tk po hr hA => ⟨_, (scons (sexpr (dcnE D_need_weights (hr.mono (by decide)) hA tk (acons (dv 0) anil))) (scons (sexpr (dcnE D_need_number (hr.mono (by decide)) hA tk (acons (dv 1) anil))) (sone (sret (m := 0) (dx (dfrz (dcn D_penny_in (hr.mono (by decide)) hA (acons (dv 0) (acons (dv 1) anil))))))))), fun as Q h => ?_⟩
  unfold S_penny_at at h
  split at h
  · unfold q_penny_at at h
    rename_i x0 x1
    refine at_env (b := [.dat x0, .dat x1]) rfl ?_
    exact Eq.mp (by kernel_rfl) h
  · exact h.elim
theorem ok_penny_at (T : Tp K mg) (D_need_number : DnX P w K mg base Tb "need_number" 3 ["thing"] S_need_number) (D_need_weights : DnX P w K mg base Tb "need_weights" 4 ["thing"] S_need_weights) (D_penny_in : Dn P w K mg base Tb "penny_in" 4 ["weights", "number"] S_penny_in) : DnX P w K mg base Tb "penny_at" 5 ["weights", "number"] S_penny_at := by
  obtain ⟨kV, doc, pm, an, cdv, ct, Fn⟩ := T.fun_ "penny_at" (top 49) 16 87
  exact ⟨⟨_, fg_penny_at T D_need_number D_need_weights D_penny_in Fn, Fn.binds (ps := ["weights", "number"]) fun _ _ _ _ _ _ us hl => match us, hl with | [_, _], _ => rfl⟩, T.glo "penny_at" 31, T.keep "penny_at" 87⟩
def kk_has_none : RT → (PyData → Prop) := fun R v => R (.dat v) []
def em_has_none_1 (i : PyData × PyData) (s : Unit) : List SD := [.dat i.1, .dat i.2, .un, .un]
def de_has_none_1 : List SD → Option ((PyData × PyData) × (Unit))
  | [.dat x0, .dat x1, .un, .un] => some ((x0, x1), ())
  | _ => none
theorem hde_has_none_1 : ∀ env i s, de_has_none_1 env = some (i, s) → env = em_has_none_1 i s := by
  intro env i s h
  unfold de_has_none_1 at h
  split at h
  · cases h; rfl
  · cases h
def S_has_none : DSp := fun as Q => match as with
  | [.dat x0, .dat x1] => q_has_none x0 x1 (kk_has_none Q)
  | _ => False
theorem len_has_none (as : List SD) (Q : SD → List SD → Prop) (h : S_has_none as Q) : as.length = 2 := by
  unfold S_has_none at h
  split at h
  · rfl
  · exact h.elim
theorem cels_has_none : CelsIn 0 S_has_none := by
  intro as Q h i p xs e
  unfold S_has_none at h
  split at h
  · exact absurd e (no_cel (ds := [_, _]) i p xs)
  · exact h.elim
def N_has_none : List Str := ["weights", "counts", "part", "weight"]
theorem sc_has_none : FnScope N_has_none ["weights", "counts"] (defScope (top 50)) := ⟨rfl, rfl, rfl, by decide +kernel, rfl, by decide +kernel, by decide +kernel⟩
theorem fg_has_none (T : Tp K mg)  {fd : FuncData} (Fn : Fun K "has_none" "has_none" (top 50) (He.ga K "has_none") fd) : FnG P w K mg base Tb 1 (He.ga K "has_none") fd ["weights", "counts"] S_has_none := by
  refine dfn 0 Fn sc_has_none len_has_none cels_has_none fun cdv A outer s H hr hA => ⟨_, (sone (sret (m := 0) (dx (dcmp (op_empE hr.units) opd_emp (dfrz (dlc (dec := de_has_none_1) (emb := em_has_none_1) (qb := qb_has_none_1) [("part", 2), ("weight", 3)] (.tup [2, 3]) hde_has_none_1 rfl sc_has_none.nd (ienum (m_enumerate T) (acons (dv 0) anil)) (blkOk_by (own := [("part", 2), ("weight", 3)]) (N := N_has_none) (sc := defScope (top 50)) (by decide +kernel)) (fun _ _ _ _ _ => pg_tup rfl (pgs_cons (pg_name (i := 2) sc_has_none.nd rfl (Or.inl rfl)) (pgs_cons (pg_name (i := 3) sc_has_none.nd rfl (Or.inl rfl)) pgs_nil))) (fun _ _ _ _ _ => tif1 (tand (dcmpT (op_eqE hr.units) opd_eq (dv 3) di (nomark _)) (tand1 (dcmpT (op_neE hr.units) opd_ne (dixP (dv 1) (dv 2)) di (nomark _)))).pt) (fun _ _ _ _ _ => (dv 2)) (fun d i s sk yd h => Eq.mp (by kernel_rfl) h))) (dfrz (dlst anil)) (nomark _))))), fun as Q h => ?_⟩
  unfold S_has_none at h
  split at h
  · unfold q_has_none at h
    rename_i x0 x1
    refine at_env (b := [.dat x0, .dat x1, .un, .un]) rfl ?_
    exact Eq.mp (by kernel_rfl) h
  · exact h.elim
theorem ok_has_none (T : Tp K mg)  : Dn P w K mg base Tb "has_none" 1 ["weights", "counts"] S_has_none := by
  obtain ⟨kV, doc, pm, an, cdv, ct, Fn⟩ := T.fun_ "has_none" (top 50) 17 88
  exact ⟨⟨_, fg_has_none T  Fn, Fn.binds (ps := ["weights", "counts"]) fun _ _ _ _ _ _ us hl => match us, hl with | [_, _], _ => rfl⟩, T.glo "has_none" 32, T.keep "has_none" 88⟩
def kk_are_counts : RT → (PyData → Prop) := fun R v => R (.dat v) []
def em_are_counts_1 (i : PyData × PyData × PyData) (s : Unit) : List SD := [.dat i.1, .dat i.2.1, .dat i.2.2, .un, .un, .un]
def de_are_counts_1 : List SD → Option ((PyData × PyData × PyData) × (Unit))
  | [.dat x0, .dat x1, .dat x2, .un, .un, .un] => some ((x0, x1, x2), ())
  | _ => none
theorem hde_are_counts_1 : ∀ env i s, de_are_counts_1 env = some (i, s) → env = em_are_counts_1 i s := by
  intro env i s h
  unfold de_are_counts_1 at h
  split at h
  · cases h; rfl
  · cases h
def S_are_counts : DSpX := fun as Q E => match as with
  | [.dat x0, .dat x1, .dat x2] => q_are_counts x0 x1 x2 (kk_are_counts Q) E
  | _ => False
theorem len_are_counts (as : List SD) (Q : SD → List SD → Prop) (E : Str → Prop) (h : S_are_counts as Q E) : as.length = 3 := by
  unfold S_are_counts at h
  split at h
  · rfl
  · exact h.elim
theorem nc_are_counts (as : List SD) (Q : SD → List SD → Prop) (E : Str → Prop) (h : S_are_counts as Q E) : NoCel as := by
  intro i p xs e
  unfold S_are_counts at h
  split at h
  · exact absurd e (no_cel (ds := [_, _, _]) i p xs)
  · exact h.elim
def N_are_counts : List Str := ["weights", "n", "thing", "last", "come", "count"]
theorem sc_are_counts : FnScope N_are_counts ["weights", "n", "thing"] (defScope (top 51)) := ⟨rfl, rfl, rfl, by decide +kernel, rfl, by decide +kernel, by decide +kernel⟩
theorem fg_are_counts (T : Tp K mg) (D_has_none : Dn P w K mg base Tb "has_none" 1 ["weights", "counts"] S_has_none) (D_is_from : Dn P w K mg base Tb "is_from" 2 ["thing", "least"] S_is_from) (D_last_part : Dn P w K mg base Tb "last_part" 2 ["weights", "counts"] S_last_part) (D_need_number : DnX P w K mg base Tb "need_number" 3 ["thing"] S_need_number) (D_need_weights : DnX P w K mg base Tb "need_weights" 4 ["thing"] S_need_weights) (D_next_part : Dn P w K mg base Tb "next_part" 2 ["weights", "counts"] S_next_part) (D_stands_ahead : Dn P w K mg base Tb "stands_ahead" 1 ["weights", "one", "other"] S_stands_ahead) {fd : FuncData} (Fn : Fun K "are_counts" "are_counts" (top 51) (He.ga K "are_counts") fd) : FnX P w K mg base Tb 5 (He.ga K "are_counts") fd ["weights", "n", "thing"] S_are_counts := by
  refine dfnX Fn sc_are_counts len_are_counts nc_are_counts fun Ec cdv A outer s H E tk po hr hA => ⟨_, (scons (sexpr (dcnE D_need_weights (hr.mono (by decide)) hA tk (acons (dv 0) anil))) (scons (sexpr (dcnE D_need_number (hr.mono (by decide)) hA tk (acons (dv 1) anil))) (scons (sif (tor (tnot (dtest (disi "tuple" "tuple" (m_isinstance T) (m_tuple T) (by decide +kernel) (by decide +kernel) (dv 2)))) (tor (dcmpT (op_neE hr.units) opd_ne (dlen (m_len T) (acons (dv 2) anil)) (dlen (m_len T) (acons (dv 0) anil)) (nomark _)) (tor1 (tnot (dtest (dall (m_all T) rfl (acons (dfrz (dlc (dec := de_are_counts_1) (emb := em_are_counts_1) (qb := (qb_are_counts_1 Ec)) [("count", 5)] (.one 5) hde_are_counts_1 rfl sc_are_counts.nd (iseq (dv 2)) (blkOk_by (own := [("count", 5)]) (N := N_are_counts) (sc := defScope (top 51)) (by decide +kernel)) (fun _ _ _ _ _ => pg_name (i := 5) sc_are_counts.nd rfl (Or.inl rfl)) (fun _ _ _ _ _ => tyes) (fun _ _ _ _ _ => (dfrz (dcn D_is_from (hr.mono (by decide)) hA (acons (dv 5) (acons di anil))))) (fun d i s sk yd h => Eq.mp (by kernel_rfl) h))) anil))))))).pt (sone (sret (m := 0) (dx db))) snil) (scons (sif (tor (dcmpT (op_neE hr.units) opd_ne (dsum (m_sum T) rfl (acons (dv 2) anil)) (dv 1) (nomark _)) (tor1 (tnot (dtest (dfrz (dcn D_has_none (hr.mono (by decide)) hA (acons (dv 0) (acons (dv 2) anil)))))))).pt (sone (sret (m := 0) (dx db))) snil) (scons (sset 3 sc_are_counts.nd (dcn D_last_part (hr.mono (by decide)) hA (acons (dv 0) (acons (dv 2) anil)))) (ssforget [1] (scons (sif (tisN (dv 3)) (sone (sret (m := 0) (dx db))) snil) (scons (sset 4 sc_are_counts.nd (dcn D_next_part (hr.mono (by decide)) hA (acons (dv 0) (acons (dv 2) anil)))) (sone (sret (m := 0) (dx (dfrz (dcn D_stands_ahead (hr.mono (by decide)) hA (acons (dv 0) (acons (dtup (acons (dv 3) (acons (dsub (dixP (dv 2) (dv 3)) di) anil))) (acons (dtup (acons (dv 4) (acons (dixP (dv 2) (dv 4)) anil))) anil)))))))))))))))), fun as Q h => ?_⟩
  unfold S_are_counts at h
  split at h
  · unfold q_are_counts at h
    rename_i x0 x1 x2
    refine at_env (b := [.dat x0, .dat x1, .dat x2, .un, .un, .un]) rfl ?_
    exact Eq.mp (by kernel_rfl) h
  · exact h.elim
theorem ok_are_counts (T : Tp K mg) (D_has_none : Dn P w K mg base Tb "has_none" 1 ["weights", "counts"] S_has_none) (D_is_from : Dn P w K mg base Tb "is_from" 2 ["thing", "least"] S_is_from) (D_last_part : Dn P w K mg base Tb "last_part" 2 ["weights", "counts"] S_last_part) (D_need_number : DnX P w K mg base Tb "need_number" 3 ["thing"] S_need_number) (D_need_weights : DnX P w K mg base Tb "need_weights" 4 ["thing"] S_need_weights) (D_next_part : Dn P w K mg base Tb "next_part" 2 ["weights", "counts"] S_next_part) (D_stands_ahead : Dn P w K mg base Tb "stands_ahead" 1 ["weights", "one", "other"] S_stands_ahead) : DnX P w K mg base Tb "are_counts" 5 ["weights", "n", "thing"] S_are_counts := by
  obtain ⟨kV, doc, pm, an, cdv, ct, Fn⟩ := T.fun_ "are_counts" (top 51) 18 89
  exact ⟨⟨_, fg_are_counts T D_has_none D_is_from D_last_part D_need_number D_need_weights D_next_part D_stands_ahead Fn, Fn.binds (ps := ["weights", "n", "thing"]) fun _ _ _ _ _ _ us hl => match us, hl with | [_, _, _], _ => rfl⟩, T.glo "are_counts" 33, T.keep "are_counts" 89⟩
def kk_law_stock : RT → (List PyData → Prop) := fun R v => R (.cel false v) []
def S_law_stock : DSp := fun as Q => match as with
  | [.dat x0, .dat x1] => q_law_stock x0 x1 (kk_law_stock Q)
  | _ => False
theorem len_law_stock (as : List SD) (Q : SD → List SD → Prop) (h : S_law_stock as Q) : as.length = 2 := by
  unfold S_law_stock at h
  split at h
  · rfl
  · exact h.elim
theorem cels_law_stock : CelsIn 0 S_law_stock := by
  intro as Q h i p xs e
  unfold S_law_stock at h
  split at h
  · exact absurd e (no_cel (ds := [_, _]) i p xs)
  · exact h.elim
def N_law_stock : List Str := ["_law_script", "_law_k", "_law_cell", "_law_great"]
theorem sc_law_stock : FnScope N_law_stock ["_law_script", "_law_k"] (defScope (top 53)) := ⟨rfl, rfl, rfl, by decide +kernel, rfl, by decide +kernel, by decide +kernel⟩
theorem fg_law_stock (T : Tp K mg)  {fd : FuncData} (Fn : Fun K "_law_stock" "_law_stock" (top 53) (He.ga K "_law_stock") fd) : FnG P w K mg base Tb 1 (He.ga K "_law_stock") fd ["_law_script", "_law_k"] S_law_stock := by
  refine dfn 0 Fn sc_law_stock len_law_stock cels_law_stock fun cdv A outer s H hr hA => ⟨_, (scons (sset 2 sc_law_stock.nd (dx (dadd (dmul di (dv 1)) di))) (scons (sif (dcmpT op_ltA opr_ltA (dv 1) (dlen (m_len T) (acons (dv 0) anil)) (nomark _)) (sone (sset 2 sc_law_stock.nd (dx (dixP (dv 0) (dv 1))))) snil) (scons (sset 3 sc_law_stock.nd (dx di)) (ssforget [0, 1] (scons (sif (dcmpT op_ge opr_ge (dabs (m_abs T) (acons (dv 2) anil)) (dpow di di) (nomark _)) (sone (sset 3 sc_law_stock.nd (dx (dabs (m_abs T) (acons (dv 2) anil))))) snil) (sone (sret (m := 0) (dlst (acons (dv 3) (acons (dmod (dv 2) di) (acons di anil))))))))))), fun as Q h => ?_⟩
  unfold S_law_stock at h
  split at h
  · unfold q_law_stock at h
    rename_i x0 x1
    refine at_env (b := [.dat x0, .dat x1, .un, .un]) rfl ?_
    exact Eq.mp (by kernel_rfl) h
  · exact h.elim
theorem ok_law_stock (T : Tp K mg)  : Dn P w K mg base Tb "_law_stock" 1 ["_law_script", "_law_k"] S_law_stock := by
  obtain ⟨kV, doc, pm, an, cdv, ct, Fn⟩ := T.fun_ "_law_stock" (top 53) 19 90
  exact ⟨⟨_, fg_law_stock T  Fn, Fn.binds (ps := ["_law_script", "_law_k"]) fun _ _ _ _ _ _ us hl => match us, hl with | [_, _], _ => rfl⟩, T.glo "_law_stock" 34, T.keep "_law_stock" 90⟩
def kk_law_take : RT → (PyData → List PyData → Prop) := fun R v c => R (.dat v) [.cel true c]
def S_law_take : DSp := fun as Q => match as with
  | [.cel true x0, .dat x1] => q_law_take x0 x1 (kk_law_take Q)
  | _ => False
theorem len_law_take (as : List SD) (Q : SD → List SD → Prop) (h : S_law_take as Q) : as.length = 2 := by
  unfold S_law_take at h
  split at h
  · rfl
  · exact h.elim
theorem cels_law_take : CelsIn 1 S_law_take := by
  intro as Q h i p xs e
  unfold S_law_take at h
  split at h
  · exact cels1 (ds := [_]) e
  · exact h.elim
def N_law_take : List Str := ["_law_stock_here", "_law_many", "_law_found", "_law_turn", "_law_prime", "_law_one", "_law_two"]
theorem sc_law_take : FnScope N_law_take ["_law_stock_here", "_law_many"] (defScope (top 54)) := ⟨rfl, rfl, rfl, by decide +kernel, rfl, by decide +kernel, by decide +kernel⟩
theorem fg_law_take (T : Tp K mg)  {fd : FuncData} (Fn : Fun K "_law_take" "_law_take" (top 54) (He.ga K "_law_take") fd) : FnG P w K mg base Tb 1 (He.ga K "_law_take") fd ["_law_stock_here", "_law_many"] S_law_take := by
  refine dfn 1 Fn sc_law_take len_law_take cels_law_take fun cdv A outer s H hr hA => ⟨_, (scons (ssetC 0 (dadd (dixC 0 di) di) di) (scons (sif (dcmpT op_gt opr_gt (dixC 0 di) di (nomark _)) (scons (sset 2 sc_law_take.nd (dx (dmod (dixC 0 di) (dv 1)))) (scons (ssetC 0 (ddiv (dixC 0 di) (dv 1)) di) (sone (sret (m := 1) (dx (dv 2)))))) snil) (scons (sset 3 sc_law_take.nd (dx (dixC 0 di))) (scons (sset 4 sc_law_take.nd (dx (dixP (dfrz (dlst (acons di (acons di (acons di (acons di (acons di anil))))))) (dmod (dv 3) di)))) (scons (sset 5 sc_law_take.nd (dx (dmod (dpow (dadd (dadd (dadd (dixC 0 di) (dmul (dmul di (dv 3)) (dv 3))) (dmul di (dv 3))) di) di) (dv 4)))) (scons (sset 6 sc_law_take.nd (dx (dmod (dadd (dadd (dmul (dv 5) (dv 5)) (dmul di (dv 3))) di) di))) (sone (sret (m := 1) (dx (dmod (ddiv (dmod (dmul (dv 6) di) di) di) (dv 1))))))))))), fun as Q h => ?_⟩
  unfold S_law_take at h
  split at h
  · unfold q_law_take at h
    rename_i x0 x1
    refine at_env (b := [.cel true x0, .dat x1, .un, .un, .un, .un, .un]) rfl ?_
    exact Eq.mp (by kernel_rfl) h
  · exact h.elim
theorem ok_law_take (T : Tp K mg)  : Dn P w K mg base Tb "_law_take" 1 ["_law_stock_here", "_law_many"] S_law_take := by
  obtain ⟨kV, doc, pm, an, cdv, ct, Fn⟩ := T.fun_ "_law_take" (top 54) 20 91
  exact ⟨⟨_, fg_law_take T  Fn, Fn.binds (ps := ["_law_stock_here", "_law_many"]) fun _ _ _ _ _ _ us hl => match us, hl with | [_, _], _ => rfl⟩, T.glo "_law_take" 35, T.keep "_law_take" 91⟩
def kk_law_weights : RT → (PyData → List PyData → Prop) := fun R v c => R (.dat v) [.cel true c]
def em_law_weights_1 (i : PyData) (s : List PyData × List PyData) : List SD := [.cel true s.1, .un, .dat i, .un, .cel false s.2, .un, .un, .un]
def de_law_weights_1 : List SD → Option ((PyData) × (List PyData × List PyData))
  | [.cel true x0, .un, .dat x2, .un, .cel false x4, .un, .un, .un] => some (x2, (x0, x4))
  | _ => none
theorem hde_law_weights_1 : ∀ env i s, de_law_weights_1 env = some (i, s) → env = em_law_weights_1 i s := by
  intro env i s h
  unfold de_law_weights_1 at h
  split at h
  · cases h; rfl
  · cases h
def S_law_weights : DSp := fun as Q => match as with
  | [.cel true x0, .dat x1] => q_law_weights x0 x1 (kk_law_weights Q)
  | _ => False
theorem len_law_weights (as : List SD) (Q : SD → List SD → Prop) (h : S_law_weights as Q) : as.length = 2 := by
  unfold S_law_weights at h
  split at h
  · rfl
  · exact h.elim
theorem cels_law_weights : CelsIn 1 S_law_weights := by
  intro as Q h i p xs e
  unfold S_law_weights at h
  split at h
  · exact cels1 (ds := [_]) e
  · exact h.elim
def N_law_weights : List Str := ["_law_stock_here", "_law_most", "_law_sort", "_law_many", "_law_found", "_law_k", "_law_drawn", "_law_some"]
theorem sc_law_weights : FnScope N_law_weights ["_law_stock_here", "_law_most"] (defScope (top 55)) := ⟨rfl, rfl, rfl, by decide +kernel, rfl, by decide +kernel, by decide +kernel⟩
theorem fg_law_weights (T : Tp K mg) (D_law_take : Dn P w K mg base Tb "_law_take" 1 ["_law_stock_here", "_law_many"] S_law_take) {fd : FuncData} (Fn : Fun K "_law_weights" "_law_weights" (top 55) (He.ga K "_law_weights") fd) : FnG P w K mg base Tb 2 (He.ga K "_law_weights") fd ["_law_stock_here", "_law_most"] S_law_weights := by
  refine dfn 1 Fn sc_law_weights len_law_weights cels_law_weights fun cdv A outer s H hr hA => ⟨_, (scons (sset 2 sc_law_weights.nd (dcnC 0 D_law_take (hr.mono (by decide)) hA (acons di anil))) (scons (sset 3 sc_law_weights.nd (dx (dadd di (dfrz (dcnC 0 D_law_take (hr.mono (by decide)) hA (acons (dv 1) anil)))))) (scons (sset 4 sc_law_weights.nd (dlst anil)) (ssforget [1] (scons (sforQ [3, 5, 6, 7] de_law_weights_1 em_law_weights_1 kk_law_weights qb_law_weights_1 hde_law_weights_1 PassesOwn.never rfl (irange1 (m_range T) (acons (dv 3) anil)) (gn 5 sc_law_weights.nd) (scons (sset 6 sc_law_weights.nd (dcnC 0 D_law_take (hr.mono (by decide)) hA (acons di anil))) (scons (sset 7 sc_law_weights.nd (dx (dfrz (dlst (acons di (acons (dmod (dv 6) di) (acons (dv 6) (acons (dixP (dfrz (dlst (acons di (acons (dpow di di) (acons di anil))))) (dmod (dv 6) di)) (acons (dixP (dfrz (dlst (acons di (acons di (acons di anil))))) (dmod (dv 6) di)) anil))))))))) (sone (sapp 4 (dixP (dv 7) (dv 2)))))) (fun R d i s nx bk h => Eq.mp (by kernel_rfl) h)) (ssforget [2] (scons (sif (dcmpT (op_eqE hr.units) opd_eq (dbor (dmaxL (m_max T) rfl hr.units (acons (dv 4) anil))) di (nomark _)) (sone (ssetC 4 di (dneg di))) snil) (sone (sret (m := 1) (dx (dtupC 4 (m_tuple T)))))))))))), fun as Q h => ?_⟩
  unfold S_law_weights at h
  split at h
  · unfold q_law_weights at h
    rename_i x0 x1
    refine at_env (b := [.cel true x0, .dat x1, .un, .un, .un, .un, .un, .un]) rfl ?_
    exact Eq.mp (by kernel_rfl) h
  · exact h.elim
theorem ok_law_weights (T : Tp K mg) (D_law_take : Dn P w K mg base Tb "_law_take" 1 ["_law_stock_here", "_law_many"] S_law_take) : Dn P w K mg base Tb "_law_weights" 2 ["_law_stock_here", "_law_most"] S_law_weights := by
  obtain ⟨kV, doc, pm, an, cdv, ct, Fn⟩ := T.fun_ "_law_weights" (top 55) 21 92
  exact ⟨⟨_, fg_law_weights T D_law_take Fn, Fn.binds (ps := ["_law_stock_here", "_law_most"]) fun _ _ _ _ _ _ us hl => match us, hl with | [_, _], _ => rfl⟩, T.glo "_law_weights" 36, T.keep "_law_weights" 92⟩
def kk_law_kind : RT → (PyData → Prop) := fun R v => R (.dat v) []
def S_law_kind : DSp := fun as Q => match as with
  | [.dat x0] => q_law_kind x0 (kk_law_kind Q)
  | _ => False
theorem len_law_kind (as : List SD) (Q : SD → List SD → Prop) (h : S_law_kind as Q) : as.length = 1 := by
  unfold S_law_kind at h
  split at h
  · rfl
  · exact h.elim
theorem cels_law_kind : CelsIn 0 S_law_kind := by
  intro as Q h i p xs e
  unfold S_law_kind at h
  split at h
  · exact absurd e (no_cel (ds := [_]) i p xs)
  · exact h.elim
def N_law_kind : List Str := ["_law_caught", "_law_kinds", "_law_others"]
theorem sc_law_kind : FnScope N_law_kind ["_law_caught"] (defScope (top 56)) := ⟨rfl, rfl, rfl, by decide +kernel, rfl, by decide +kernel, by decide +kernel⟩
theorem fg_law_kind (T : Tp K mg)  {fd : FuncData} (Fn : Fun K "_law_kind" "_law_kind" (top 56) (He.ga K "_law_kind") fd) : FnG P w K mg base Tb 1 (He.ga K "_law_kind") fd ["_law_caught"] S_law_kind := by
  refine dfn 0 Fn sc_law_kind len_law_kind cels_law_kind fun cdv A outer s H hr hA => ⟨_, (scons (sset 1 sc_law_kind.nd (dlst (acons (disx (m_isinstance T) (gl_NoWeights T) (by decide +kernel) (dv 0)) (acons (disx (m_isinstance T) (gl_NoPart T) (by decide +kernel) (dv 0)) anil)))) (scons (sapp 1 (disx (m_isinstance T) (gl_NoNumber T) (by decide +kernel) (dv 0))) (scons (sset 2 sc_law_kind.nd (dlst (acons (disx (m_isinstance T) (gl_NoLog T) (by decide +kernel) (dv 0)) (acons (disx (m_isinstance T) (gl_NoChase T) (by decide +kernel) (dv 0)) (acons (disx (m_isinstance T) (gl_NoMiles T) (by decide +kernel) (dv 0)) anil))))) (ssfreeze2 2 (scons (sset 2 sc_law_kind.nd (dx (dadd (dv 2) (dfrz (dlst (acons (disx (m_isinstance T) (gl_NoLogs T) (by decide +kernel) (dv 0)) (acons (disx (m_isinstance T) (gl_NoTable T) (by decide +kernel) (dv 0)) (acons (disx (m_isinstance T) (gl_NoSights T) (by decide +kernel) (dv 0)) (acons (disx (m_isinstance T) (gl_NoSet T) (by decide +kernel) (dv 0)) (acons (disx (m_isinstance T) (gl_NoRoll T) (by decide +kernel) (dv 0)) anil)))))))))) (scons (sset 2 sc_law_kind.nd (dx (dadd (dv 2) (dfrz (dlst (acons (disx (m_isinstance T) (gl_NoName T) (by decide +kernel) (dv 0)) (acons (disx (m_isinstance T) (gl_NoHour T) (by decide +kernel) (dv 0)) (acons (disx (m_isinstance T) (gl_NoScheme T) (by decide +kernel) (dv 0)) (acons (disx (m_isinstance T) (gl_NoCrew T) (by decide +kernel) (dv 0)) (acons (disx (m_isinstance T) (gl_NoMan T) (by decide +kernel) (dv 0)) anil)))))))))) (scons (sset 2 sc_law_kind.nd (dx (dadd (dv 2) (dfrz (dlst (acons (disx (m_isinstance T) (gl_NoSale T) (by decide +kernel) (dv 0)) (acons (disx (m_isinstance T) (gl_NoCrews T) (by decide +kernel) (dv 0)) (acons (disx (m_isinstance T) (gl_NoPages T) (by decide +kernel) (dv 0)) (acons (disx (m_isinstance T) (gl_NoPage T) (by decide +kernel) (dv 0)) (acons (disx (m_isinstance T) (gl_NoPrize T) (by decide +kernel) (dv 0)) anil)))))))))) (scons (sset 2 sc_law_kind.nd (dcatN (dv 2) (dfrz (dlst (acons (disx (m_isinstance T) (gl_NoBalances T) (by decide +kernel) (dv 0)) (acons (disx (m_isinstance T) (gl_NoMoney T) (by decide +kernel) (dv 0)) (acons (disx (m_isinstance T) (gl_NoChange T) (by decide +kernel) (dv 0)) (acons (disx (m_isinstance T) (gl_NoText T) (by decide +kernel) (dv 0)) (acons (disx (m_isinstance T) (gl_NoRow T) (by decide +kernel) (dv 0)) anil))))))))) (scons (sapp 2 (disx (m_isinstance T) (gl_TooMany T) (by decide +kernel) (dv 0))) (ssfreeze2 1 (ssfreeze2 2 (scons (sif (tor (dcmpT (op_neE hr.units) opd_ne (dcnt hr.u65 (dv 1) db) di (nomark _)) (tor (tin hr db (dv 2)) (tor1 (tnot (dtest (disv (m_isinstance T) (m_ValueError T) (dv 0))))))).pt (sone (sret (m := 0) (dx ds))) snil) (sone (sret (m := 0) (dx (dixP (dfrz (dlst (acons ds (acons ds (acons ds anil))))) (dlix hr.u65 (dv 1) db))))))))))))))))), fun as Q h => ?_⟩
  unfold S_law_kind at h
  split at h
  · unfold q_law_kind at h
    rename_i x0
    refine at_env (b := [.dat x0, .un, .un]) rfl ?_
    exact Eq.mp (by kernel_rfl) h
  · exact h.elim
theorem ok_law_kind (T : Tp K mg)  : Dn P w K mg base Tb "_law_kind" 1 ["_law_caught"] S_law_kind := by
  obtain ⟨kV, doc, pm, an, cdv, ct, Fn⟩ := T.fun_ "_law_kind" (top 56) 22 93
  exact ⟨⟨_, fg_law_kind T  Fn, Fn.binds (ps := ["_law_caught"]) fun _ _ _ _ _ _ us hl => match us, hl with | [_], _ => rfl⟩, T.glo "_law_kind" 37, T.keep "_law_kind" 93⟩
def S_law_word : DSpT := fun th Q => q_law_word (fun p Er => th (fun _ => p) Er) fun d => Q (.dat d)
def N_law_word : List Str := ["_law_call", "_law_caught", "e"]
theorem sc_law_word : FnScope N_law_word ["_law_call"] (defScope (top 57)) := ⟨rfl, rfl, rfl, by decide +kernel, rfl, by decide +kernel, by decide +kernel⟩
theorem fg_law_word (T : Tp K mg) (D_law_kind : Dn P w K mg base Tb "_law_kind" 1 ["_law_caught"] S_law_kind) {fd : FuncData} (Fn : Fun K "_law_word" "_law_word" (top 57) (He.ga K "_law_word") fd) : FnT P w K mg base Tb 7 6 (He.ga K "_law_word") fd "_law_call" S_law_word := by
  refine dfnT Fn sc_law_word fun F H cdv A outer s u th TH hr hA => ⟨_, (suCons (ssetU 1 (by decide) sc_law_word.nd (dx dn)) (suEnd (stryU 2 (gl_PrizeError T) sc_law_word.nd (fun F2 P2 Ed pn xe hF hn tk po => pss_one (sthk TH (hr.mono (by decide)) hA tk fun k => post_try hF hn k)) (fun a pn => (sone (sset 1 sc_law_word.nd (dx (dv 2)))))) (sone (sret (m := 0) (dx (dif (tisN (dv 1)) ds (dfrz (dcn D_law_kind (hr.mono (by decide)) hA (acons (dv 1) anil))))))))), fun PP h => ?_⟩
  unfold S_law_word at h
  unfold q_law_word at h
  refine at_env (b := [.un, .un, .un]) rfl ?_
  exact Eq.mp (by kernel_rfl) h
theorem ok_law_word (T : Tp K mg) (D_law_kind : Dn P w K mg base Tb "_law_kind" 1 ["_law_caught"] S_law_kind) : DnT P w K mg base Tb "_law_word" 7 6 "_law_call" S_law_word := by
  obtain ⟨kV, doc, pm, an, cdv, ct, Fn⟩ := T.fun_ "_law_word" (top 57) 23 94
  exact ⟨⟨_, fg_law_word T D_law_kind Fn, Fn.binds (ps := ["_law_call"]) fun _ _ _ _ _ _ us hl => match us, hl with | [_], _ => rfl⟩, T.glo "_law_word" 38, T.keep "_law_word" 94⟩
def kk_law_bads : RT → (PyData → List PyData → Prop) := fun R v c => R (.dat v) [.cel true c]
def em_law_bads_1 (i : List PyData × PyData × PyData) (s : Unit) : List SD := [.cel true i.1, .dat i.2.1, .un, .dat i.2.2, .un, .un, .un]
def de_law_bads_1 : List SD → Option ((List PyData × PyData × PyData) × (Unit))
  | [.cel true x0, .dat x1, .un, .dat x3, .un, .un, .un] => some ((x0, x1, x3), ())
  | _ => none
theorem hde_law_bads_1 : ∀ env i s, de_law_bads_1 env = some (i, s) → env = em_law_bads_1 i s := by
  intro env i s h
  unfold de_law_bads_1 at h
  split at h
  · cases h; rfl
  · cases h
def S_law_bads : DSp := fun as Q => match as with
  | [.cel true x0, .dat x1] => q_law_bads x0 x1 (kk_law_bads Q)
  | _ => False
theorem len_law_bads (as : List SD) (Q : SD → List SD → Prop) (h : S_law_bads as Q) : as.length = 2 := by
  unfold S_law_bads at h
  split at h
  · rfl
  · exact h.elim
theorem cels_law_bads : CelsIn 1 S_law_bads := by
  intro as Q h i p xs e
  unfold S_law_bads at h
  split at h
  · exact cels1 (ds := [_]) e
  · exact h.elim
def N_law_bads : List Str := ["_law_stock_here", "_law_weights_here", "_law_many", "_law_part", "_law_none", "_law_at", "_law_weight"]
theorem sc_law_bads : FnScope N_law_bads ["_law_stock_here", "_law_weights_here"] (defScope (top 58)) := ⟨rfl, rfl, rfl, by decide +kernel, rfl, by decide +kernel, by decide +kernel⟩
theorem fg_law_bads (T : Tp K mg) (D_law_take : Dn P w K mg base Tb "_law_take" 1 ["_law_stock_here", "_law_many"] S_law_take) {fd : FuncData} (Fn : Fun K "_law_bads" "_law_bads" (top 58) (He.ga K "_law_bads") fd) : FnG P w K mg base Tb 2 (He.ga K "_law_bads") fd ["_law_stock_here", "_law_weights_here"] S_law_bads := by
  refine dfn 1 Fn sc_law_bads len_law_bads cels_law_bads fun cdv A outer s H hr hA => ⟨_, (scons (sset 2 sc_law_bads.nd (dx (dlen (m_len T) (acons (dv 1) anil)))) (scons (sset 3 sc_law_bads.nd (dx (dixP (dfrz (dlst (acons (dneg di) (acons (dv 2) (acons db (acons db (acons dn (acons ds (acons (dtup (acons di anil)) (acons (dfrz (dlst (acons di anil))) (acons (dpow di di) (acons ddict0 (acons (dadd (dv 2) di) (acons (dneg (dv 2)) anil)))))))))))))) (dfrz (dcnC 0 D_law_take (hr.mono (by decide)) hA (acons di anil)))))) (ssforget [2] (scons (ssetLc (dec := de_law_bads_1) (emb := em_law_bads_1) (qb := qb_law_bads_1) 4 [("_law_at", 5), ("_law_weight", 6)] (.tup [5, 6]) hde_law_bads_1 rfl sc_law_bads.nd (ienum (m_enumerate T) (acons (dv 1) anil)) (blkOk_by (own := [("_law_at", 5), ("_law_weight", 6)]) (N := N_law_bads) (sc := defScope (top 58)) (by decide +kernel)) (fun _ _ _ _ _ => pg_tup rfl (pgs_cons (pg_name (i := 5) sc_law_bads.nd rfl (Or.inl rfl)) (pgs_cons (pg_name (i := 6) sc_law_bads.nd rfl (Or.inl rfl)) pgs_nil))) (fun _ _ _ _ _ => tif1 (dcmpT (op_eqE hr.units) opd_eq (dv 6) di (nomark _))) (fun _ _ _ _ _ => (dv 5)) (fun d i s sk yd h => Eq.mp (by kernel_rfl) h) (sw_true rfl rfl rfl (by decide +kernel))) (ssforget [1] (scons (sif (tand (tempCn 4 hr.units) (tand1 (dcmpT (op_eqE hr.units) opd_eq (dfrz (dcnC 0 D_law_take (hr.mono (by decide)) hA (acons di anil))) di (nomark _)))).pt (sone (sset 3 sc_law_bads.nd (dx (dixC 4 (dfrz (dcnC 0 D_law_take (hr.mono (by decide)) hA (acons (dlenC 4 (m_len T)) anil))))))) snil) (sone (sret (m := 1) (dx (dfrz (dlst (acons (dixP (dfrz (dlst (acons (dtup anil) (acons (dtup (acons di anil)) (acons (dtup (acons di (acons di anil))) (acons (dtup (acons (dneg di) (acons di anil))) (acons (dtup (acons db (acons di anil))) (acons (dfrz (dlst (acons di (acons di anil)))) (acons dn (acons ds (acons (dtup (acons (dadd (dpow di di) di) anil)) (acons (dmul (dtup (acons di anil)) di) (acons ddict0 (acons di anil)))))))))))))) (dfrz (dcnC 0 D_law_take (hr.mono (by decide)) hA (acons di anil)))) (acons (dv 3) (acons (dixP (dfrz (dlst (acons (dneg di) (acons db (acons db (acons dn (acons ds (acons (dtup (acons di anil)) (acons (dfrz (dlst (acons di anil))) (acons (dneg (dpow di di)) (acons ddict0 (acons (dtup (acons (dtup anil) anil)) anil)))))))))))) (dfrz (dcnC 0 D_law_take (hr.mono (by decide)) hA (acons di anil)))) anil)))))))))))))), fun as Q h => ?_⟩
  unfold S_law_bads at h
  split at h
  · unfold q_law_bads at h
    rename_i x0 x1
    refine at_env (b := [.cel true x0, .dat x1, .un, .un, .un, .un, .un]) rfl ?_
    exact Eq.mp (by kernel_rfl) h
  · exact h.elim
theorem ok_law_bads (T : Tp K mg) (D_law_take : Dn P w K mg base Tb "_law_take" 1 ["_law_stock_here", "_law_many"] S_law_take) : Dn P w K mg base Tb "_law_bads" 2 ["_law_stock_here", "_law_weights_here"] S_law_bads := by
  obtain ⟨kV, doc, pm, an, cdv, ct, Fn⟩ := T.fun_ "_law_bads" (top 58) 24 95
  exact ⟨⟨_, fg_law_bads T D_law_take Fn, Fn.binds (ps := ["_law_stock_here", "_law_weights_here"]) fun _ _ _ _ _ _ us hl => match us, hl with | [_, _], _ => rfl⟩, T.glo "_law_bads" 39, T.keep "_law_bads" 95⟩
def kk_law_first : RT → (PyData → Prop) := fun R v => R (.dat v) []
def em_law_first_1 (i : PyData) (s : Unit) : List SD := [.dat i, .un, .un]
def de_law_first_1 : List SD → Option ((PyData) × (Unit))
  | [.dat x0, .un, .un] => some (x0, ())
  | _ => none
theorem hde_law_first_1 : ∀ env i s, de_law_first_1 env = some (i, s) → env = em_law_first_1 i s := by
  intro env i s h
  unfold de_law_first_1 at h
  split at h
  · cases h; rfl
  · cases h
def S_law_first : DSp := fun as Q => match as with
  | [.dat x0, .dat x1] => q_law_first x0 x1 (kk_law_first Q)
  | _ => False
theorem len_law_first (as : List SD) (Q : SD → List SD → Prop) (h : S_law_first as Q) : as.length = 2 := by
  unfold S_law_first at h
  split at h
  · rfl
  · exact h.elim
theorem cels_law_first : CelsIn 0 S_law_first := by
  intro as Q h i p xs e
  unfold S_law_first at h
  split at h
  · exact absurd e (no_cel (ds := [_, _]) i p xs)
  · exact h.elim
def N_law_first : List Str := ["_law_wrong", "_law_places", "_law_place"]
theorem sc_law_first : FnScope N_law_first ["_law_wrong", "_law_places"] (defScope (top 59)) := ⟨rfl, rfl, rfl, by decide +kernel, rfl, by decide +kernel, by decide +kernel⟩
theorem fg_law_first (T : Tp K mg)  {fd : FuncData} (Fn : Fun K "_law_first" "_law_first" (top 59) (He.ga K "_law_first") fd) : FnG P w K mg base Tb 1 (He.ga K "_law_first") fd ["_law_wrong", "_law_places"] S_law_first := by
  refine dfn 0 Fn sc_law_first len_law_first cels_law_first fun cdv A outer s H hr hA => ⟨_, (scons (sforQ [1, 2] de_law_first_1 em_law_first_1 kk_law_first qb_law_first_1 hde_law_first_1 PassesOwn.never rfl (iseq (dv 1)) (gn 2 sc_law_first.nd) (sone (sif (dtest (dixP (dv 0) (dv 2))) (sone (sret (m := 0) (dx (dixP (dfrz (dlst (acons ds (acons ds (acons ds anil))))) (dv 2))))) snil)) (fun R d i s nx bk h => Eq.mp (by kernel_rfl) h)) (sone (sret (m := 0) (dx ds)))), fun as Q h => ?_⟩
  unfold S_law_first at h
  split at h
  · unfold q_law_first at h
    rename_i x0 x1
    refine at_env (b := [.dat x0, .dat x1, .un]) rfl ?_
    exact Eq.mp (by kernel_rfl) h
  · exact h.elim
theorem ok_law_first (T : Tp K mg)  : Dn P w K mg base Tb "_law_first" 1 ["_law_wrong", "_law_places"] S_law_first := by
  obtain ⟨kV, doc, pm, an, cdv, ct, Fn⟩ := T.fun_ "_law_first" (top 59) 25 96
  exact ⟨⟨_, fg_law_first T  Fn, Fn.binds (ps := ["_law_wrong", "_law_places"]) fun _ _ _ _ _ _ us hl => match us, hl with | [_, _], _ => rfl⟩, T.glo "_law_first" 40, T.keep "_law_first" 96⟩
def S_law_calls : DSpM := fun as Q => match as with
  | [.dat x0, .dat x1] => q_law_calls x0 x1 fun d0 d1 d2 d3 d4 => Q [.dat d0, .dat d1, .dat d2, .dat d3, .dat d4, .un]
  | _ => False
theorem len_law_calls (as : List SD) (Q : List SD → Prop) (h : S_law_calls as Q) : as.length = 2 := by
  unfold S_law_calls at h
  split at h
  · rfl
  · exact h.elim
theorem nc_law_calls (as : List SD) (Q : List SD → Prop) (h : S_law_calls as Q) : NoCel as := by
  intro i p xs e
  unfold S_law_calls at h
  split at h
  · exact absurd e (no_cel (ds := [_, _]) i p xs)
  · exact h.elim
def N_law_calls : List Str := ["_law_some", "_law_thing", "_law_weights_here", "_law_part", "_law_number", "_law_found"]
theorem sc_law_calls : FnScope N_law_calls ["_law_some", "_law_thing"] (defScope (top 60)) := ⟨rfl, rfl, rfl, by decide +kernel, rfl, by decide +kernel, by decide +kernel⟩
def LS_law_calls : List (LamC0 × List Int) := lamsS (defBody (top 60))
theorem fg_law_calls (T : Tp K mg) (D_are_counts : DnX P w K mg base Tb "are_counts" 5 ["weights", "n", "thing"] S_are_counts) (D_counts_of : DnX P w K mg base Tb "counts_of" 5 ["weights", "n"] S_counts_of) (D_number_of : DnX P w K mg base Tb "number_of" 5 ["weights", "part", "j"] S_number_of) (D_penny_at : DnX P w K mg base Tb "penny_at" 5 ["weights", "number"] S_penny_at) {fd : FuncData} (Fn : Fun K "_law_calls" "_law_calls" (top 60) (He.ga K "_law_calls") fd) : FnM P w K mg base Tb 6 (He.ga K "_law_calls") fd ["_law_some", "_law_thing"] (("_law_calls" : Str) ++ ".<locals>." ++ "<lambda>") (defScope (top 60)) N_law_calls LS_law_calls S_law_calls := by
  refine dfnM lam (i := 5) 0 Fn sc_law_calls len_law_calls nc_law_calls rfl fun cdv A outer s H LC hr hA => ⟨_, (m_first (m := 0) (sasg (dv 0) (gseq (gl_cons gok_n (gl_cons gok_n (gl_cons gok_n gl_nil))) rfl (gcons (gn 2 sc_law_calls.nd) (gcons (gn 3 sc_law_calls.nd) (gcons (gn 4 sc_law_calls.nd) gnil))))) (m_new sc_law_calls.nd (pe_item LC (LamX.lamS_by (sc := defScope (top 60)) (by decide +kernel)) (pa_ints (pa_ints (pa_ints pa_ints0))) (by decide)) (m_app (pe_item LC (LamX.lamS_by (sc := defScope (top 60)) (by decide +kernel)) (pa_ints (pa_ints pa_ints0)) (by decide)) (by decide) (m_app (pe_item LC (LamX.lamS_by (sc := defScope (top 60)) (by decide +kernel)) (pa_ints (pa_ints pa_ints0)) (by decide)) (by decide) (m_app (pe_item LC (LamX.lamS_by (sc := defScope (top 60)) (by decide +kernel)) (pa_ints (pa_ints pa_ints0)) (by decide)) (by decide) m_ret))))), fun as PP h => ?_⟩
  unfold S_law_calls at h
  split at h
  · rename_i x0 x1
    unfold q_law_calls at h
    refine at_env (b := [.dat x0, .dat x1, .un, .un, .un, .un]) rfl ?_
    exact Eq.mp (by kernel_rfl) h
  · exact h.elim
theorem ok_law_calls (T : Tp K mg) (D_are_counts : DnX P w K mg base Tb "are_counts" 5 ["weights", "n", "thing"] S_are_counts) (D_counts_of : DnX P w K mg base Tb "counts_of" 5 ["weights", "n"] S_counts_of) (D_number_of : DnX P w K mg base Tb "number_of" 5 ["weights", "part", "j"] S_number_of) (D_penny_at : DnX P w K mg base Tb "penny_at" 5 ["weights", "number"] S_penny_at) : DnM P w K mg base Tb "_law_calls" 6 ["_law_some", "_law_thing"] (("_law_calls" : Str) ++ ".<locals>." ++ "<lambda>") (defScope (top 60)) N_law_calls LS_law_calls S_law_calls := by
  obtain ⟨kV, doc, pm, an, cdv, ct, Fn⟩ := T.fun_ "_law_calls" (top 60) 26 97
  exact ⟨⟨_, fg_law_calls T D_are_counts D_counts_of D_number_of D_penny_at Fn, Fn.binds (ps := ["_law_some", "_law_thing"]) fun _ _ _ _ _ _ us hl => match us, hl with | [_, _], _ => rfl⟩, T.glo "_law_calls" 41, T.keep "_law_calls" 97⟩
def kk_law : RT → (PyData → Prop) := fun R v => R (.dat v) []
def em_law_1 (i : PyData) (s : Unit) : List SD := [.dat i, .un, .un, .un, .un, .un, .un, .un, .un, .un, .un, .un, .un, .un, .un, .un, .un]
def de_law_1 : List SD → Option ((PyData) × (Unit))
  | [.dat x0, .un, .un, .un, .un, .un, .un, .un, .un, .un, .un, .un, .un, .un, .un, .un, .un] => some (x0, ())
  | _ => none
theorem hde_law_1 : ∀ env i s, de_law_1 env = some (i, s) → env = em_law_1 i s := by
  intro env i s h
  unfold de_law_1 at h
  split at h
  · cases h; rfl
  · cases h
def em_law_2 (i : PyData × List PyData × PyData × PyData) (s : Unit) : List SD := [.dat i.1, .un, .cel false i.2.1, .dat i.2.2.1, .dat i.2.2.2, .un, .un, .un, .un, .un, .un, .un, .un, .un, .un, .un, .un]
def de_law_2 : List SD → Option ((PyData × List PyData × PyData × PyData) × (Unit))
  | [.dat x0, .un, .cel false x2, .dat x3, .dat x4, .un, .un, .un, .un, .un, .un, .un, .un, .un, .un, .un, .un] => some ((x0, x2, x3, x4), ())
  | _ => none
theorem hde_law_2 : ∀ env i s, de_law_2 env = some (i, s) → env = em_law_2 i s := by
  intro env i s h
  unfold de_law_2 at h
  split at h
  · cases h; rfl
  · cases h
def em_law_3 (i : PyData × PyData × PyData × PyData) (s : Unit) : List SD := [.dat i.1, .un, .un, .un, .dat i.2.1, .un, .dat i.2.2.1, .dat i.2.2.2, .un, .un, .un, .un, .un, .un, .un, .un, .un]
def de_law_3 : List SD → Option ((PyData × PyData × PyData × PyData) × (Unit))
  | [.dat x0, .un, .un, .un, .dat x4, .un, .dat x6, .dat x7, .un, .un, .un, .un, .un, .un, .un, .un, .un] => some ((x0, x4, x6, x7), ())
  | _ => none
theorem hde_law_3 : ∀ env i s, de_law_3 env = some (i, s) → env = em_law_3 i s := by
  intro env i s h
  unfold de_law_3 at h
  split at h
  · cases h; rfl
  · cases h
def em_law_4 (i : PyData × PyData × PyData × PyData × PyData) (s : Unit) : List SD := [.dat i.1, .un, .un, .un, .dat i.2.1, .un, .dat i.2.2.1, .dat i.2.2.2.1, .dat i.2.2.2.2, .un, .un, .un, .un, .un, .un, .un, .un]
def de_law_4 : List SD → Option ((PyData × PyData × PyData × PyData × PyData) × (Unit))
  | [.dat x0, .un, .un, .un, .dat x4, .un, .dat x6, .dat x7, .dat x8, .un, .un, .un, .un, .un, .un, .un, .un] => some ((x0, x4, x6, x7, x8), ())
  | _ => none
theorem hde_law_4 : ∀ env i s, de_law_4 env = some (i, s) → env = em_law_4 i s := by
  intro env i s h
  unfold de_law_4 at h
  split at h
  · cases h; rfl
  · cases h
def em_law_5 (i : PyData × PyData × PyData × PyData × List PyData) (s : Unit) : List SD := [.dat i.1, .un, .un, .un, .dat i.2.1, .un, .dat i.2.2.1, .dat i.2.2.2.1, .un, .cel false i.2.2.2.2, .un, .un, .un, .un, .un, .un, .un]
def de_law_5 : List SD → Option ((PyData × PyData × PyData × PyData × List PyData) × (Unit))
  | [.dat x0, .un, .un, .un, .dat x4, .un, .dat x6, .dat x7, .un, .cel false x9, .un, .un, .un, .un, .un, .un, .un] => some ((x0, x4, x6, x7, x9), ())
  | _ => none
theorem hde_law_5 : ∀ env i s, de_law_5 env = some (i, s) → env = em_law_5 i s := by
  intro env i s h
  unfold de_law_5 at h
  split at h
  · cases h; rfl
  · cases h
def em_law_6 (i : PyData × PyData × PyData × PyData × PyData) (s : Unit) : List SD := [.dat i.1, .un, .un, .un, .dat i.2.1, .un, .dat i.2.2.1, .dat i.2.2.2.1, .un, .dat i.2.2.2.2, .un, .un, .un, .un, .un, .un, .un]
def de_law_6 : List SD → Option ((PyData × PyData × PyData × PyData × PyData) × (Unit))
  | [.dat x0, .un, .un, .un, .dat x4, .un, .dat x6, .dat x7, .un, .dat x9, .un, .un, .un, .un, .un, .un, .un] => some ((x0, x4, x6, x7, x9), ())
  | _ => none
theorem hde_law_6 : ∀ env i s, de_law_6 env = some (i, s) → env = em_law_6 i s := by
  intro env i s h
  unfold de_law_6 at h
  split at h
  · cases h; rfl
  · cases h
def S_law : DSp := fun as Q => match as with
  | [.dat x0] => q_law x0 (kk_law Q)
  | _ => False
theorem len_law (as : List SD) (Q : SD → List SD → Prop) (h : S_law as Q) : as.length = 1 := by
  unfold S_law at h
  split at h
  · rfl
  · exact h.elim
theorem cels_law : CelsIn 0 S_law := by
  intro as Q h i p xs e
  unfold S_law at h
  split at h
  · exact absurd e (no_cel (ds := [_]) i p xs)
  · exact h.elim
def N_law : List Str := ["_law_script", "_law_k", "_law_stock_here", "_law_weights_here", "_law_bad", "_law_parts", "_law_good", "_law_thing", "_law_mask", "_law_wrong", "_law_some", "_law_call", "_law_places", "_law_part", "_law_weight", "_law_bit", "_law_place"]
theorem sc_law : FnScope N_law ["_law_script"] (defScope (top 61)) := ⟨rfl, rfl, rfl, by decide +kernel, rfl, by decide +kernel, by decide +kernel⟩
theorem fg_law (T : Tp K mg) (D_law_bads : Dn P w K mg base Tb "_law_bads" 2 ["_law_stock_here", "_law_weights_here"] S_law_bads) (D_law_calls : DnM P w K mg base Tb "_law_calls" 6 ["_law_some", "_law_thing"] (("_law_calls" : Str) ++ ".<locals>." ++ "<lambda>") (defScope (top 60)) N_law_calls LS_law_calls S_law_calls) (D_law_first : Dn P w K mg base Tb "_law_first" 1 ["_law_wrong", "_law_places"] S_law_first) (D_law_stock : Dn P w K mg base Tb "_law_stock" 1 ["_law_script", "_law_k"] S_law_stock) (D_law_take : Dn P w K mg base Tb "_law_take" 1 ["_law_stock_here", "_law_many"] S_law_take) (D_law_weights : Dn P w K mg base Tb "_law_weights" 2 ["_law_stock_here", "_law_most"] S_law_weights) (D_law_word : DnT P w K mg base Tb "_law_word" 7 6 "_law_call" S_law_word) (D_are_counts : DnX P w K mg base Tb "are_counts" 5 ["weights", "n", "thing"] S_are_counts) (D_counts_of : DnX P w K mg base Tb "counts_of" 5 ["weights", "n"] S_counts_of) (D_number_of : DnX P w K mg base Tb "number_of" 5 ["weights", "part", "j"] S_number_of) (D_penny_at : DnX P w K mg base Tb "penny_at" 5 ["weights", "number"] S_penny_at) {fd : FuncData} (Fn : Fun K "law" "law" (top 61) (He.ga K "law") fd) : FnG P w K mg base Tb 8 (He.ga K "law") fd ["_law_script"] S_law := by
  refine dfn 0 Fn sc_law len_law cels_law fun cdv A outer s H hr hA => ⟨_, (scons (sforQ [1, 2, 3, 4, 5, 6, 7, 8, 9, 10, 11, 12] de_law_1 em_law_1 kk_law qb_law_1 hde_law_1 PassesOwn.never rfl (irange1 (m_range T) (acons (dmax2 (m_max T) rfl (acons di (acons (dmin2 (m_min T) rfl (acons di (acons (dlen (m_len T) (acons (dv 0) anil)) anil))) anil))) anil)) (gn 1 sc_law.nd) (scons (sset 2 sc_law.nd (dcn D_law_stock (hr.mono (by decide)) hA (acons (dv 0) (acons (dv 1) anil)))) (scons (sset 3 sc_law.nd (dcnC 2 D_law_weights (hr.mono (by decide)) hA (acons di anil))) (scons (sset 4 sc_law.nd (dcnC 2 D_law_bads (hr.mono (by decide)) hA (acons (dv 3) anil))) (ssforget [1] (scons (ssetLc (dec := de_law_2) (emb := em_law_2) (qb := qb_law_2) 5 [("_law_part", 13), ("_law_weight", 14)] (.tup [13, 14]) hde_law_2 rfl sc_law.nd (ienum (m_enumerate T) (acons (dv 3) anil)) (blkOk_by (own := [("_law_part", 13), ("_law_weight", 14)]) (N := N_law) (sc := defScope (top 61)) (by decide +kernel)) (fun _ _ _ _ _ => pg_tup rfl (pgs_cons (pg_name (i := 13) sc_law.nd rfl (Or.inl rfl)) (pgs_cons (pg_name (i := 14) sc_law.nd rfl (Or.inl rfl)) pgs_nil))) (fun _ _ _ _ _ => tif1 (dcmpT op_gt opr_gt (dv 14) di (nomark _))) (fun _ _ _ _ _ => (dv 13)) (fun d i s sk yd h => Eq.mp (by kernel_rfl) h) (sw_true rfl rfl rfl (by decide +kernel))) (scons (sset 6 sc_law.nd (dx (dfrz (dlst (acons (dv 3) (acons (dixC 5 (dfrz (dcnC 2 D_law_take (hr.mono (by decide)) hA (acons (dlenC 5 (m_len T)) anil)))) (acons (dixP (dfrz (dlst (acons di (acons (dpow di di) (acons (dfrz (dcnC 2 D_law_take (hr.mono (by decide)) hA (acons (dpow di di) anil))) anil))))) (dfrz (dcnC 2 D_law_take (hr.mono (by decide)) hA (acons di anil)))) anil))))))) (scons (sset 7 sc_law.nd (dx (dixP (dfrz (dlst (acons dn (acons (dv 3) (acons ddict0 (acons di (acons (dmul (dtup (acons di anil)) (dlen (m_len T) (acons (dv 3) anil))) anil))))))) (dfrz (dcnC 2 D_law_take (hr.mono (by decide)) hA (acons di anil)))))) (ssforget [2, 3, 5] (sone (sforQ [8, 9, 10, 11, 12] de_law_3 em_law_3 kk_law qb_law_3 hde_law_3 PassesOwn.never rfl (iseq (dfrz (dlst (acons di (acons di (acons di (acons di (acons di (acons di (acons di (acons di (acons di anil)))))))))))) (gn 8 sc_law.nd) (scons (sset 9 sc_law.nd (dlc (dec := de_law_4) (emb := em_law_4) (qb := qb_law_4) [("_law_bit", 15)] (.one 15) hde_law_4 rfl sc_law.nd (iseq (dtup (acons di (acons di (acons di anil))))) (blkOk_by (own := [("_law_bit", 15)]) (N := N_law) (sc := defScope (top 61)) (by decide +kernel)) (fun _ _ _ _ _ => pg_name (i := 15) sc_law.nd rfl (Or.inl rfl)) (fun _ _ _ _ _ => tyes) (fun _ _ _ _ _ => (dcmp (op_eqE hr.units) opd_eq (dmod (ddiv (dv 8) (dv 15)) di) di (nomark _))) (fun d i s sk yd h => Eq.mp (by kernel_rfl) h))) (ssforget [8] (scons (ssetLc (dec := de_law_5) (emb := em_law_5) (qb := qb_law_5) 10 [("_law_place", 16)] (.one 16) hde_law_5 rfl sc_law.nd (irange1 (m_range T) (acons di anil)) (blkOk_by (own := [("_law_place", 16)]) (N := N_law) (sc := defScope (top 61)) (by decide +kernel)) (fun _ _ _ _ _ => pg_name (i := 16) sc_law.nd rfl (Or.inl rfl)) (fun _ _ _ _ _ => tyes) (fun _ _ _ _ _ => (dixP (dixP (dfrz (dlst (acons (dv 6) (acons (dv 4) anil)))) (dintOf (m_int T) (acons (dixC 9 (dv 16)) anil))) (dv 16))) (fun d i s sk yd h => Eq.mp (by kernel_rfl) h) (sw_true rfl rfl rfl (by decide +kernel))) (ssfreeze2 10 (ssfreeze2 9 (sone (sforM [10, 11, 12] de_law_6 em_law_6 kk_law qb_law_6 hde_law_6 [[0, 1, 2], [0, 2], [0, 2], [0, 2]] PassesOwn.never rfl D_law_calls (hr.mono (by decide)) hA (.cons ⟨LamX.lamS_by (sc := defScope (top 60)) (by decide +kernel), fun _ _ _ _ => rfl, fun cells f c2 Er A outer s H E tk hr hA => (dcnE D_number_of (hr.mono (by decide)) hA tk (acons (dv 2) (acons (dv 3) (acons (dv 4) anil))))⟩ (.cons ⟨LamX.lamS_by (sc := defScope (top 60)) (by decide +kernel), fun _ _ _ _ => rfl, fun cells f c2 Er A outer s H E tk hr hA => (dcnE D_penny_at (hr.mono (by decide)) hA tk (acons (dv 2) (acons (dv 4) anil)))⟩ (.cons ⟨LamX.lamS_by (sc := defScope (top 60)) (by decide +kernel), fun _ _ _ _ => rfl, fun cells f c2 Er A outer s H E tk hr hA => (dcnE D_counts_of (hr.mono (by decide)) hA tk (acons (dv 2) (acons (dv 4) anil)))⟩ (.cons ⟨LamX.lamS_by (sc := defScope (top 60)) (by decide +kernel), fun _ _ _ _ => rfl, fun cells f c2 Er A outer s H E tk hr hA => (dcnE D_are_counts (hr.mono (by decide)) hA tk (acons (dv 2) (acons (dv 4) (acons (dv 1) anil))))⟩ .nil)))) (acons (dv 10) (acons (dv 7) anil)) (gtup (gl_cons gok_n (gl_cons gok_n gl_nil)) rfl (gcons (gn 11 sc_law.nd) (gcons (gn 12 sc_law.nd) gnil))) (fun hZ B tbl ht => (sone (sif (dcmpT (op_neE hr.units) opd_ne (dfrz (dcnCl 11 D_law_word (hr.mono (by decide)) hA hZ B ht)) (dfrz (dcn D_law_first (hr.mono (by decide)) hA (acons (dv 9) (acons (dv 12) anil)))) (nomark _)) (sone (sret (m := 0) (dx db))) snil))) (fun R tbl d i s nx bk h => Eq.mp (by kernel_rfl) h)))))))) (fun R d i s nx bk h => Eq.mp (by kernel_rfl) h))))))))))) (fun R d i s nx bk h => Eq.mp (by kernel_rfl) h)) (sone (sret (m := 0) (dx db)))), fun as Q h => ?_⟩
  unfold S_law at h
  split at h
  · unfold q_law at h
    rename_i x0
    refine at_env (b := [.dat x0, .un, .un, .un, .un, .un, .un, .un, .un, .un, .un, .un, .un, .un, .un, .un, .un]) rfl ?_
    exact Eq.mp (by kernel_rfl) h
  · exact h.elim
theorem ok_law (T : Tp K mg) (D_law_bads : Dn P w K mg base Tb "_law_bads" 2 ["_law_stock_here", "_law_weights_here"] S_law_bads) (D_law_calls : DnM P w K mg base Tb "_law_calls" 6 ["_law_some", "_law_thing"] (("_law_calls" : Str) ++ ".<locals>." ++ "<lambda>") (defScope (top 60)) N_law_calls LS_law_calls S_law_calls) (D_law_first : Dn P w K mg base Tb "_law_first" 1 ["_law_wrong", "_law_places"] S_law_first) (D_law_stock : Dn P w K mg base Tb "_law_stock" 1 ["_law_script", "_law_k"] S_law_stock) (D_law_take : Dn P w K mg base Tb "_law_take" 1 ["_law_stock_here", "_law_many"] S_law_take) (D_law_weights : Dn P w K mg base Tb "_law_weights" 2 ["_law_stock_here", "_law_most"] S_law_weights) (D_law_word : DnT P w K mg base Tb "_law_word" 7 6 "_law_call" S_law_word) (D_are_counts : DnX P w K mg base Tb "are_counts" 5 ["weights", "n", "thing"] S_are_counts) (D_counts_of : DnX P w K mg base Tb "counts_of" 5 ["weights", "n"] S_counts_of) (D_number_of : DnX P w K mg base Tb "number_of" 5 ["weights", "part", "j"] S_number_of) (D_penny_at : DnX P w K mg base Tb "penny_at" 5 ["weights", "number"] S_penny_at) : Dn P w K mg base Tb "law" 8 ["_law_script"] S_law := by
  obtain ⟨kV, doc, pm, an, cdv, ct, Fn⟩ := T.fun_ "law" (top 61) 27 98
  exact ⟨⟨_, fg_law T D_law_bads D_law_calls D_law_first D_law_stock D_law_take D_law_weights D_law_word D_are_counts D_counts_of D_number_of D_penny_at Fn, Fn.binds (ps := ["_law_script"]) fun _ _ _ _ _ _ us hl => match us, hl with | [_], _ => rfl⟩, T.glo "law" 42, T.keep "law" 98⟩
theorem law_imp (as : List SD) (Q : SD → List SD → Prop) (h : lawS 63 as Q) : S_law as Q := by
  unfold lawS at h
  split at h
  · obtain ⟨⟨ns, rfl, hn⟩, h⟩ := h
    exact the_law ns hn _ (h [])
  · exact h.elim

end
theorem facts {P : Program} {w : World} {K : PySem.W.Frag} {h : Heap} {mg : Str → Option Value} {f : Addr} (X : K.In h) (G : h.Ns mainGlobals mg) (hfa : mg ("law" : Str) = some (.ref f)) (c : He.SaysE fa fn K) (cx : FxSays fx K) :
    ∃ fd : FuncData, (∀ (s : Shared) (v : Value), BindsTo s fd ⟨[v], []⟩ [("_law_script", v)]) ∧ ∀ base : Heap, K.In base → base.Ns mainGlobals mg → SysD base → LamB K base mg (tabsOf K lam) lam → FnG P w K mg base (tabsOf K lam) 8 f fd ["_law_script"] (lawS 63) := by
  have T : Tp K mg := ⟨⟨c, h, X, G⟩, cx⟩
  have e := hfa.symm.trans (T.glo "law" 42)
  cases e
  obtain ⟨kV, doc, pm, an, cdv, ct, Fn⟩ := T.fun_ "law" (top 61) 27 98
  refine ⟨PySem.W.fnOf "law" "law" (defArgs (top 61)) (defBody (top 61)) (defScope (top 61)) .none kV doc pm an cdv ct, fun s v => .of_eq rfl, fun base _ _ BD LB => ?_⟩
  haveI : SysB base := ⟨BD⟩
  have D_is_whole : Dn P w K mg base (tabsOf K lam) "is_whole" 1 ["thing"] S_is_whole := ok_is_whole T 
  have D_is_within : Dn P w K mg base (tabsOf K lam) "is_within" 2 ["thing", "least", "most"] S_is_within := ok_is_within T D_is_whole
  have D_is_from : Dn P w K mg base (tabsOf K lam) "is_from" 2 ["thing", "least"] S_is_from := ok_is_from T D_is_whole
  have D_are_weights : Dn P w K mg base (tabsOf K lam) "are_weights" 3 ["thing"] S_are_weights := ok_are_weights T D_is_within
  have D_need_weights : DnX P w K mg base (tabsOf K lam) "need_weights" 4 ["thing"] S_need_weights := ok_need_weights T D_are_weights
  have D_need_number : DnX P w K mg base (tabsOf K lam) "need_number" 3 ["thing"] S_need_number := ok_need_number T D_is_from
  have D_stands_ahead : Dn P w K mg base (tabsOf K lam) "stands_ahead" 1 ["weights", "one", "other"] S_stands_ahead := ok_stands_ahead T 
  have D_ahead_of : Dn P w K mg base (tabsOf K lam) "ahead_of" 1 ["weights", "part", "j", "other"] S_ahead_of := ok_ahead_of T 
  have D_number_in : Dn P w K mg base (tabsOf K lam) "number_in" 2 ["weights", "part", "j"] S_number_in := ok_number_in T D_ahead_of
  have D_number_of : DnX P w K mg base (tabsOf K lam) "number_of" 5 ["weights", "part", "j"] S_number_of := ok_number_of T D_is_within D_need_number D_need_weights D_number_in
  have D_parts_of : Dn P w K mg base (tabsOf K lam) "parts_of" 1 ["weights"] S_parts_of := ok_parts_of T 
  have D_next_part : Dn P w K mg base (tabsOf K lam) "next_part" 2 ["weights", "counts"] S_next_part := ok_next_part T D_parts_of D_stands_ahead
  have D_last_part : Dn P w K mg base (tabsOf K lam) "last_part" 2 ["weights", "counts"] S_last_part := ok_last_part T D_parts_of D_stands_ahead
  have D_first_counts : Dn P w K mg base (tabsOf K lam) "first_counts" 3 ["weights", "n"] S_first_counts := ok_first_counts T D_last_part D_next_part
  have D_counts_of : DnX P w K mg base (tabsOf K lam) "counts_of" 5 ["weights", "n"] S_counts_of := ok_counts_of T D_first_counts D_need_number D_need_weights
  have D_penny_in : Dn P w K mg base (tabsOf K lam) "penny_in" 4 ["weights", "number"] S_penny_in := ok_penny_in T D_first_counts D_next_part
  have D_penny_at : DnX P w K mg base (tabsOf K lam) "penny_at" 5 ["weights", "number"] S_penny_at := ok_penny_at T D_need_number D_need_weights D_penny_in
  have D_has_none : Dn P w K mg base (tabsOf K lam) "has_none" 1 ["weights", "counts"] S_has_none := ok_has_none T 
  have D_are_counts : DnX P w K mg base (tabsOf K lam) "are_counts" 5 ["weights", "n", "thing"] S_are_counts := ok_are_counts T D_has_none D_is_from D_last_part D_need_number D_need_weights D_next_part D_stands_ahead
  have D_law_stock : Dn P w K mg base (tabsOf K lam) "_law_stock" 1 ["_law_script", "_law_k"] S_law_stock := ok_law_stock T 
  have D_law_take : Dn P w K mg base (tabsOf K lam) "_law_take" 1 ["_law_stock_here", "_law_many"] S_law_take := ok_law_take T 
  have D_law_weights : Dn P w K mg base (tabsOf K lam) "_law_weights" 2 ["_law_stock_here", "_law_most"] S_law_weights := ok_law_weights T D_law_take
  have D_law_kind : Dn P w K mg base (tabsOf K lam) "_law_kind" 1 ["_law_caught"] S_law_kind := ok_law_kind T 
  have D_law_word : DnT P w K mg base (tabsOf K lam) "_law_word" 7 6 "_law_call" S_law_word := ok_law_word T D_law_kind
  have D_law_bads : Dn P w K mg base (tabsOf K lam) "_law_bads" 2 ["_law_stock_here", "_law_weights_here"] S_law_bads := ok_law_bads T D_law_take
  have D_law_first : Dn P w K mg base (tabsOf K lam) "_law_first" 1 ["_law_wrong", "_law_places"] S_law_first := ok_law_first T 
  have D_law_calls : DnM P w K mg base (tabsOf K lam) "_law_calls" 6 ["_law_some", "_law_thing"] (("_law_calls" : Str) ++ ".<locals>." ++ "<lambda>") (defScope (top 60)) N_law_calls LS_law_calls S_law_calls := ok_law_calls T D_are_counts D_counts_of D_number_of D_penny_at
  exact (fg_law T D_law_bads D_law_calls D_law_first D_law_stock D_law_take D_law_weights D_law_word D_are_counts D_counts_of D_number_of D_penny_at Fn).imp law_imp
/-! ### the head -/
abbrev hk : PySem.W.Hook := hookF 20000 fa fn fx lam
def ob (s : PySem.W.SharedT) : He.Al × Bool × Bool × Bool := obsF 20000 fa fn fx lam (HandSHeadRun.getT s)
theorem ob_eq (s : PySem.W.SharedT) : ob s = hk.obs s.abs := obsF_eq (HandSHeadRun.getT_eq s)
open PySem.W HandSHeadRun in
theorem looks_eq (w : World) : (fun s : PySem.W.SharedT => HandSHeadRun.looksF R.prog (boot_heap w.params) s.abs) = fun s => PySem.W.staticsOk (importedModules R.prog.main.body) (boot_heap w.params) s.abs.heap && boundF R.prog s.abs.heap && PySem.W.gensDone s.abs && PySem.W.laidKept (boot_heap w.params) s.abs.heap := funext fun s => by
  unfold HandSHeadRun.looksF
  rw [boundF_eq]
theorem run (w : World) : HandSHeadRun.RunEq R (PySem.W.view R.prog [61]) hk ob 20000 loose w := fun os => map_two (by rw [looks_eq]; exact run_l w os) (map_two (run_s w os) (run_o w os))
end K07
open PySem PySem.W PySem.Calls PyProof.Rows
set_option maxHeartbeats 0 in
theorem PySem.Challenge.cw_prizelog_k07_turns_refused_holds : PySem.Challenge.rw_prizelog_k07_turns_refused.Holds := by
  refine K07.f_law fun said => ?_
  refine HandSHeadRun.head_any (r := K07.R) (q := view K07.R.prog [61]) (H := K07.hk) (ob := K07.ob) (M := 20000) (loose := K07.loose) (d := HandSHeadRun.topDef K07.R.prog 61) (kwd := []) K07.ob_eq
    K07.f_open K07.f_fence K07.run K07.f_def K07.f_the K07.f_kw (by rfl) said K07.f_ok K07.f_bare ?hw ?hc
  case hw => w_witness2
  case hc =>
    refine DL.walk_dataL (lam := K07.lam) (l := PySem.Challenge.rw_prizelog_k07_turns_refused) (n := 63) (k := 8) (x := "_law_script") rfl (by decide) (by kernel_rfl) ⟨rfl, by decide, by decide⟩ ?F
    intro w mg fa h Y G hmg0
    obtain ⟨⟨K, KX, c, cx, cl⟩, hsys⟩ := Y
    have hmg : mg ("law" : PySem.Str) = some (.ref fa) := by
      have e : (HandSHeadRun.topDef K07.R.prog 61).name = ("law" : PySem.Str) := by kernel_rfl
      rw [← e]
      exact hmg0
    obtain ⟨fd, hb, hF⟩ := K07.facts (P := (PySem.Challenge.rw_prizelog_k07_turns_refused).prog) (w := w) KX G hmg c cx
    exact ⟨K, fd, KX, hsys, cl, hb, hF⟩
