import PyProof.Rows.All
import Wide.All
import OpenK.AllK
import Wide.FinOn
import HandS.Words
import HandS.Head0
import HandS.Head1
import HandS.Head2
import HandS.HeadHook1
import HandS.TupAny
import HandS.TupMul
import HandS.Conv
import HandS.Iter
import HandS.Deep
import HandS.ForMost
import HandS.Exc
import HandS.ExcOwn
import HandS.TryOnly
import HandS.WordsExc
import HandS.Wide
import HandS.IsInst
import HandS.Walk
import HandS.Zip
import HandS.Evl
import HandS.ExcIs
import HandS.Lambda
import HandS.HeadEnd
import PyProof.ReprBulk
import KE.KTupSum
import HandS.Style
import HandS.Dict
import KE.GoesEnum
import HandS.Flt
import KE.DatumOrd
import PyProof.P3In
import HandS.SetFor
import HandS.Strs
import HandS.ExcCtx
import HandS.HotCalls
import HandS.More
import KE.SortData
import KE.DataAny
import KE.KDictSum
import KE.GoesComp
import HandS.TupSets
import KE.SortKeyHeap
import HandS.SortKw
import HandS.EndTab
import HandS.WordsDict
import KE.KDictPairs
import KE.KEqDict
import KE.KDictCopyH
import HandS.ListItems
import HandS.Hot
import HandS.Text
import PySem.Challenge.RW_prizelog_k35_whole_rolls
set_option Elab.async false
set_option linter.all false
set_option maxRecDepth 100000
set_option maxHeartbeats 4000000
/-! The data layer, part A: what the head's run looks at (it stands ahead of all else in a hand-in). -/
namespace DL
open PySem PySem.Spec PyProof.Rows L2
/-- the classes of refusals -/
def exNames : List Str := "PrizeError" :: "NoRoll" :: "NoName" :: "NoHour" :: []
def exBases : List Value := [.type "ValueError", .type "Exception", .type "BaseException", .type "object"]
def exTypes : List String := ["int", "bool", "str", "tuple", "dict"]
/-- whether the one is the other or of it -/
def exSub (c d : Str) : Bool := decide (c = d) || decide (d = "PrizeError")
/-- what a class of refusals must say -/
def xcB (K : PySem.W.Frag) (c : Str) : Bool :=
  decide (PySem.W.findIn K (.ref (He.ga K c)) "__getattribute__" = some (some (.builtin "BaseException.__getattribute__"))) &&
  (decide (PySem.W.findIn K (.ref (He.ga K c)) "__getattr__" = some none) &&
  (decide (PySem.W.subIn K (.ref (He.ga K c)) (.type "BaseException") = some true) &&
  (PySem.W.hasDictIn K (He.ga K c) &&
  (decide (PySem.W.findIn K (.ref (He.ga K c)) "__class__" = some (some (.builtin "object.__class__"))) &&
  (decide (PySem.W.specialIn K (.builtin "object.__class__") "__get__" = some (some (.builtin "getset_descriptor.__get__"))) &&
  (decide (PySem.W.takesIn K (.builtin "object.__class__") = some true) &&
  (decide (PySem.W.mroIn K (He.ga K c) (.type "object") = some true) &&
  (PySem.W.excIn K (He.ga K c) exBases "ValueError.__new__" &&
  (PySem.W.keepIn K (.ref (He.ga K c)) &&
  (decide (PySem.W.typeIn K (.ref (He.ga K c)) = some (.type "type")) &&
  (decide (PySem.W.exmOne K (.ref (He.ga K c)) (.ref (He.ga K "PrizeError")) = some true) &&
  (decide (PySem.W.kitOne K (.ref (He.ga K c)) (.type "ValueError") = some true) &&
  (exTypes.all (fun T => decide (PySem.W.kitOne K (.ref (He.ga K c)) (.type T) = some false)) &&
  exNames.all (fun d => decide (PySem.W.kitOne K (.ref (He.ga K c)) (.ref (He.ga K d)) = some (exSub c d))))))))))))))))
/-- the head's facts, and that the modules' dict stands -/
def sysB (g : Addr → Option Obj) : Bool := match g sysModules with
  | some ⟨_, _, .dict _ _, _⟩ => true
  | _ => false
/-- an empty table of code objects -/
def isTab : Option Obj → Bool
  | some ⟨.none, none, .fields vs, sl⟩ => vs.isEmpty && sl.isEmpty
  | _ => false
def uniT (l : List (Addr × Str)) : Bool := l.all fun p => l.all fun q => decide (p.1 = q.1 → p.2 = q.2)
inductive Fx where
  | tup (x : Str) (ns : List Int)
  | exc (c : Str)
  | txt (x z : Str)
def intsB : List Value → List Int → Bool
  | [], [] => true
  | .int i _ :: r, n :: ns => decide (i = n) && intsB r ns
  | _, _ => false
def tupB (K : PySem.W.Frag) (a : Addr) (ns : List Int) : Bool := match K.lookup a with
  | some ⟨c, none, .seq its _, _⟩ => decide (c = .type "tuple") && (decide (its.size ≤ 1000) && intsB its.toList ns)
  | _ => false
def Fx.ok (K : PySem.W.Frag) : Fx → Bool
  | .tup x ns => He.eqO (PySem.W.nsIn K mainGlobals x) (some (some (.ref (He.ga K x)))) && tupB K (He.ga K x) ns
  | .exc c => He.eqO (PySem.W.nsIn K mainGlobals c) (some (some (.ref (He.ga K c)))) && xcB K c
  | .txt x z => (He.Fa.str x z).ok K
theorem frG_look {g : Addr → Option Obj} {a : Addr} : ∀ as : List Addr, (He.frG g as).lookup a = if a ∈ as then g a else none
  | [] => rfl
  | b :: r => by
    have ih := frG_look (g := g) (a := a) r
    cases hb : g b with
    | none =>
      have e : He.frG g (b :: r) = He.frG g r := by
        unfold He.frG
        rw [List.filterMap_cons, hb]
        rfl
      rw [e, ih]
      by_cases z : a = b
      · subst z
        by_cases m : a ∈ r <;> simp [m, hb]
      · simp [z]
    | some o =>
      have e : He.frG g (b :: r) = (b, o) :: He.frG g r := by
        unfold He.frG
        rw [List.filterMap_cons, hb]
        rfl
      rw [e]
      by_cases z : a = b
      · subst z
        simp [hb]
      · have q : (a == b) = false := by simpa using z
        show (match a == b with | true => some o | false => (He.frG g r).lookup a) = _
        rw [q]
        show (He.frG g r).lookup a = _
        rw [ih]
        simp [z]
/-- the object at an address below n, tables of code left out -/
def kG (g : Addr → Option Obj) (n : Nat) (a : Addr) : Option Obj := match Nat.blt a n with
  | true => (match g a with
    | some o => (match isTab (some o) with
      | true => none
      | false => some o)
    | none => none)
  | false => none
def hotOk (g : Addr → Option Obj) (n : Nat) (hot : List Addr) : Bool := hot.all fun a => Nat.blt a n && !isTab (g a)
/-- all objects below n but tables of code, those of hot first -/
def kAll (g : Addr → Option Obj) (n : Nat) (hot : List Addr) : PySem.W.Frag := He.frG g (hot ++ (List.range n).filter fun a => !isTab (g a))
theorem kAll_look {g : Addr → Option Obj} {n : Nat} {hot : List Addr} (h : hotOk g n hot = true) (a : Addr) : (kAll g n hot).lookup a = kG g n a := by
  have hm : (a ∈ hot ++ (List.range n).filter fun a => !isTab (g a)) ↔ (a < n ∧ isTab (g a) = false) := by
    rw [List.mem_append, List.mem_filter, List.mem_range]
    constructor
    · rintro (m | ⟨h1, h2⟩)
      · obtain ⟨z1, z2⟩ := He.ba (List.all_eq_true.mp h a m)
        exact ⟨Nat.le_of_ble_eq_true z1, by simpa using z2⟩
      · exact ⟨h1, by simpa using h2⟩
    · rintro ⟨h1, h2⟩
      exact .inr ⟨h1, by simp [h2]⟩
  unfold kAll
  rw [frG_look]
  unfold kG
  by_cases lt : a < n
  · rw [show Nat.blt a n = true from Nat.ble_eq_true_of_le lt]
    cases q : g a with
    | none => simp
    | some o =>
      cases t : isTab (some o) with
      | true =>
        rw [if_neg fun m => by
          have := (hm.mp m).2
          rw [q, t] at this
          cases this]
        simp [t]
      | false => rw [if_pos (hm.mpr ⟨lt, by rw [q, t]⟩)]; simp [t]
  · rw [show Nat.blt a n = false from by
      cases z : Nat.blt a n with
      | false => rfl
      | true => exact absurd (Nat.le_of_ble_eq_true z) lt]
    rw [if_neg fun m => lt (hm.mp m).1]
/-! ### names by numbers -/
def codeS (x : Str) : Nat := x.cps.toList.foldl (fun a c => a * 1114112 + c) 7
def codeV : Value → Nat
  | .str x _ => codeS x
  | _ => 0
def nsE (o : Option Obj) (x : Str) : Option (Option Value) := match o with
  | some ⟨_, _, .dict es _, _⟩ => (match es.toList.find? (fun e => match Nat.beq (codeV e.key) (codeS x) with
      | true => e.key.isStr x
      | false => false) with
    | some e => some (some e.val)
    | none => if es.toList.any (·.refKey) then none else some none)
  | _ => none
theorem isStr_code (x : Str) (e : DictEntry) : (match Nat.beq (codeV e.key) (codeS x) with
      | true => e.key.isStr x
      | false => false) = e.key.isStr x := by
  cases q : Nat.beq (codeV e.key) (codeS x) with
  | true => rfl
  | false =>
    cases z : e.key.isStr x with
    | false => rfl
    | true =>
      exfalso
      cases k : e.key with
      | str y t =>
        rw [k] at z q
        have e1 : (y == x) = true := z
        have e2 : y = x := by simpa using e1
        rw [e2] at q
        have q2 : Nat.beq (codeS x) (codeS x) = false := q
        rw [Nat.beq_refl] at q2
        cases q2
      | _ => rw [k] at z; cases z
theorem nsE_eq (K : PySem.W.Frag) (ns : Addr) (x : Str) : PySem.W.nsIn K ns x = nsE (K.lookup ns) x := by
  unfold PySem.W.nsIn nsE
  have e : (fun e : DictEntry => match Nat.beq (codeV e.key) (codeS x) with
      | true => e.key.isStr x
      | false => false) = fun e => e.key.isStr x := funext fun e => isStr_code x e
  rw [e]
  rfl
def gaF (o : Option Obj) (x : Str) : Addr := match nsE o x with
  | some (some (.ref a)) => a
  | _ => 0
def isRf (o : Option Obj) (x : Str) : Bool := match nsE o x with
  | some (some (.ref _)) => true
  | _ => false
section
variable {K : PySem.W.Frag} {g : Addr → Option Obj} {n : Nat} {o : Option Obj}
theorem gaF_eq (ho : K.lookup mainGlobals = o) (x : Str) : He.ga K x = gaF o x := by
  unfold He.ga gaF
  rw [nsE_eq, ho]
  rfl
theorem isRf_ok (ho : K.lookup mainGlobals = o) {x : Str} (h : isRf o x = true) : He.eqO (PySem.W.nsIn K mainGlobals x) (some (some (.ref (He.ga K x)))) = true := by
  unfold isRf at h
  unfold He.eqO He.ga
  rw [nsE_eq, ho]
  cases q : nsE o x with
  | none => rw [q] at h; cases h
  | some v =>
    cases v with
    | none => rw [q] at h; cases h
    | some v =>
      cases v with
      | ref a => simp
      | _ => rw [q] at h; cases h
def faF (K : PySem.W.Frag) (g : Addr → Option Obj) (n : Nat) (o : Option Obj) : He.Fa → Bool
  | .glo x => isRf o x
  | .free x => (match nsE o x with
    | some none => true
    | _ => false)
  | .int x i => (match nsE o x with
    | some (some (.int j _)) => decide (j = i)
    | _ => false)
  | .keep x => (match kG g n (gaF o x) with
    | some ⟨_, _, .func _, _⟩ => true
    | _ => false)
  | f => f.ok K
theorem faF_ok (ho : K.lookup mainGlobals = o) (hk : ∀ a, K.lookup a = kG g n a) {f : He.Fa} (h : faF K g n o f = true) : f.ok K = true := by
  cases f with
  | glo x => exact isRf_ok ho h
  | free x =>
    have h : (match nsE o x with
      | some none => true
      | _ => false) = true := h
    show decide (PySem.W.nsIn K mainGlobals x = some none) = true
    rw [nsE_eq, ho]
    split at h
    · rename_i e
      rw [e]
      simp
    · cases h
  | int x i =>
    have h : (match nsE o x with
      | some (some (.int j _)) => decide (j = i)
      | _ => false) = true := h
    show (match PySem.W.nsIn K mainGlobals x with
      | some (some (.int j _)) => decide (j = i)
      | _ => false) = true
    rw [nsE_eq, ho]
    exact h
  | keep x =>
    have h : (match kG g n (gaF o x) with
      | some ⟨_, _, .func _, _⟩ => true
      | _ => false) = true := h
    show PySem.W.keepIn K (.ref (He.ga K x)) = true
    unfold PySem.W.keepIn
    dsimp only
    rw [hk, gaF_eq ho]
    split at h
    · rename_i e
      rw [e]
    · cases h
  | _ => exact h
/-- a def's address -/
def fAdF (K : PySem.W.Frag) (o : Option Obj) (p : Str × Option Str) : Addr := match p.2 with
  | none => gaF o p.1
  | some m => He.ma K (He.ga K p.1) m
theorem fAdF_eq (ho : K.lookup mainGlobals = o) (p : Str × Option Str) : He.fAd K p = fAdF K o p := by
  unfold He.fAd fAdF
  cases p.2 with
  | none => exact gaF_eq ho _
  | some m => rfl
def codeF (g : Addr → Option Obj) (n : Nat) (q : Str) : Value → Bool
  | .ref c => (match kG g n c with
      | some ⟨_, _, .fields vs, _⟩ => (match vs.toList with | _ :: .str n _ :: _ => n == q | _ => false)
      | _ => false)
  | _ => false
theorem codeF_eq (hk : ∀ a, K.lookup a = kG g n a) (v : Value) (q : Str) : PySem.W.codeIn K v q = codeF g n q v := by
  unfold PySem.W.codeIn codeF
  cases v with
  | ref c => dsimp only; rw [hk]; rfl
  | _ => rfl
def dcF (K : PySem.W.Frag) (g : Addr → Option Obj) (n : Nat) (o : Option Obj) (d : He.FnD) : Bool := match kG g n (fAdF K o d.at_) with
  | some ⟨_, _, .func fd, _⟩ => codeF g n d.qual fd.code
  | _ => false
def dvF (K : PySem.W.Frag) (g : Addr → Option Obj) (n : Nat) (o : Option Obj) (d : He.FnD) : He.FnV := match kG g n (fAdF K o d.at_) with
  | some ⟨_, _, .func fd, _⟩ => some (fd.name, fd.qualname, fd.params, fd.body, fd.scope, fd.globals, fd.closure, fd.defaults, fd.builtins)
  | _ => none
theorem dcF_eq (ho : K.lookup mainGlobals = o) (hk : ∀ a, K.lookup a = kG g n a) (d : He.FnD) : (He.Fa.code d.at_ d.qual).ok K = dcF K g n o d := by
  show (match K.lookup (He.fAd K d.at_) with
    | some ⟨_, _, .func fd, _⟩ => PySem.W.codeIn K fd.code d.qual
    | _ => false) = _
  unfold dcF
  rw [hk, fAdF_eq ho]
  split
  · exact codeF_eq hk _ _
  · rfl
theorem dvF_eq (ho : K.lookup mainGlobals = o) (hk : ∀ a, K.lookup a = kG g n a) (d : He.FnD) : He.fnObs K d.at_ = dvF K g n o d := by
  unfold He.fnObs dvF
  rw [hk, fAdF_eq ho]
  rfl
/-! ### more facts -/
def fxF (K : PySem.W.Frag) (g : Addr → Option Obj) (n : Nat) (o : Option Obj) : Fx → Bool
  | .tup x ns => isRf o x && (match kG g n (gaF o x) with
    | some ⟨c, none, .seq its _, _⟩ => decide (c = .type "tuple") && (decide (its.size ≤ 1000) && intsB its.toList ns)
    | _ => false)
  | .exc c => isRf o c && xcB K c
  | .txt x z => (match nsE o x with
    | some (some (.str y _)) => decide (y = z)
    | _ => false)
theorem fxF_ok (ho : K.lookup mainGlobals = o) (hk : ∀ a, K.lookup a = kG g n a) {f : Fx} (h : fxF K g n o f = true) : f.ok K = true := by
  cases f with
  | tup x ns =>
    obtain ⟨h1, h2⟩ := He.ba h
    unfold Fx.ok
    dsimp only
    rw [isRf_ok ho h1]
    unfold tupB
    rw [hk, gaF_eq ho]
    exact h2
  | exc c =>
    obtain ⟨h1, h2⟩ := He.ba h
    unfold Fx.ok
    dsimp only
    rw [isRf_ok ho h1]
    exact h2
  | txt x z =>
    have h : (match nsE o x with
      | some (some (.str y _)) => decide (y = z)
      | _ => false) = true := h
    show (match PySem.W.nsIn K mainGlobals x with
      | some (some (.str y _)) => decide (y = z)
      | _ => false) = true
    rw [nsE_eq, ho]
    exact h
/-! ### tables -/
def tabF (g : Addr → Option Obj) (n : Nat) (o : Option Obj) (x : Str) : Option (Addr × Addr) := match nsE o x with
  | some (some (.ref f)) => (match kG g n f with
    | some ⟨_, _, .func fd, _⟩ => (match fd.code with
      | .ref c => (match kG g n c with
        | some ⟨_, _, .fields vs, _⟩ => (match (vs[11]? : Option Value) with
          | some (.ref P) => some (c, P)
          | _ => none)
        | _ => none)
      | _ => none)
    | _ => none)
  | _ => none
theorem tabF_eq (ho : K.lookup mainGlobals = o) (hk : ∀ a, K.lookup a = kG g n a) (x : Str) : PySem.W.tabIn K x = tabF g n o x := by
  unfold PySem.W.tabIn tabF
  rw [nsE_eq, ho]
  cases nsE o x with
  | none => rfl
  | some v => cases v with
    | none => rfl
    | some v => cases v with
      | ref f =>
        dsimp only
        rw [hk]
        cases kG g n f with
        | none => rfl
        | some ob =>
          obtain ⟨c, d, dt, sl⟩ := ob
          cases dt with
          | func fd =>
            dsimp only
            cases fd.code with
            | ref c =>
              dsimp only
              rw [hk]
              rfl
            | _ => rfl
          | _ => rfl
      | _ => rfl
def codeHdF (g : Addr → Option Obj) (n : Nat) (c P : Addr) : Bool := match kG g n c with
  | some ⟨.type "code", _, .fields vs, _⟩ => (match (vs[11]? : Option Value) with | some (.ref P') => P' == P | _ => false) &&
      (match vs.getD 18 .none with | .str _ _ => true | _ => false) && (match vs.getD 7 .none with | .int _ _ => true | _ => false) &&
      (match vs.getD 9 .none with | .bool _ => true | _ => false) && (match vs.getD 10 .none with | .int _ _ => true | _ => false) && c != P
  | _ => false
theorem codeHdF_eq (hk : ∀ a, K.lookup a = kG g n a) (c P : Addr) : PySem.W.codeHdIn K c P = codeHdF g n c P := by
  unfold PySem.W.codeHdIn codeHdF
  rw [hk]
  rfl
def lamF (g : Addr → Option Obj) (n : Nat) (o : Option Obj) (lam : List (Str × Str)) : Bool :=
  (lam.all fun p => match tabF g n o p.1 with
    | some (c, P) => codeHdF g n c P && isTab (g P)
    | none => false) && uniT (lam.filterMap fun p => (tabF g n o p.1).map fun z => (z.2, p.2))
end
def nsOf : Option Obj → Addr
  | some ⟨_, _, .cls cd, _⟩ => cd.ns
  | _ => mainGlobals
/-- the addresses that the looks at the classes of refusals ask for -/
def hotX (g : Addr → Option Obj) (n : Nat) (o : Option Obj) (fx : List Fx) : List Addr :=
  mainGlobals :: gaF o "PrizeError" :: nsOf (kG g n (gaF o "PrizeError")) :: fx.flatMap fun f => match f with
    | .exc c => [gaF o c, nsOf (kG g n (gaF o c))]
    | _ => []
def obsF (n : Nat) (fa : List He.Fa) (fn : List He.FnD) (fx : List Fx) (lam : List (Str × Str)) (g : Addr → Option Obj) : He.Al × Bool × Bool × Bool :=
  (((hotOk g n (hotX g n (kG g n mainGlobals) fx) && (fa.all (faF (kAll g n (hotX g n (kG g n mainGlobals) fx)) g n (kG g n mainGlobals)) && fn.all (dcF (kAll g n (hotX g n (kG g n mainGlobals) fx)) g n (kG g n mainGlobals)))), fn.map (dvF (kAll g n (hotX g n (kG g n mainGlobals) fx)) g n (kG g n mainGlobals))),
    sysB g, fx.all (fxF (kAll g n (hotX g n (kG g n mainGlobals) fx)) g n (kG g n mainGlobals)), lamF g n (kG g n mainGlobals) lam)
/-! ### names that are bound -/
def inF (l : List Str) (k : Str) : Bool := l.any fun x => match Nat.beq (codeS x) (codeS k) with
  | true => x == k
  | false => false
theorem inF_eq (l : List Str) (k : Str) : l.contains k = inF l k := by
  rw [Bool.eq_iff_iff, List.contains_iff_mem]
  unfold inF
  rw [List.any_eq_true]
  constructor
  · intro h
    refine ⟨k, h, ?_⟩
    rw [Nat.beq_refl]
    simp
  · rintro ⟨x, hx, e⟩
    cases q : Nat.beq (codeS x) (codeS k) with
    | true =>
      rw [q] at e
      have : x = k := by simpa using e
      exact this ▸ hx
    | false => rw [q] at e; cases e
def boundF (p : Program) (h : Heap) : Bool := h.isNs mainGlobals && (h.nsKeys mainGlobals).all fun k => inF startupNames k || inF p.boundNames k
theorem boundF_eq (p : Program) (h : Heap) : PySem.W.namesBound p h = boundF p h := by
  unfold PySem.W.namesBound boundF
  have e : (fun k => startupNames.contains k || p.boundNames.contains k) = fun k => inF startupNames k || inF p.boundNames k := funext fun k => by rw [inF_eq, inF_eq]
  rw [e]
/-! ### looks put together -/
theorem map_two {α β γ : Type} {o : Option α} {f : α → β} {g : α → γ} {b : β} {c : γ} (h1 : o.map f = some b) (h2 : o.map g = some c) : o.map (fun s => (f s, g s)) = some (b, c) := by
  cases o with
  | none => cases h1
  | some s =>
    cases h1
    cases h2
    rfl
theorem map_and {α : Type} {o : Option α} {f g : α → Bool} (h1 : o.map f = some true) (h2 : o.map g = some true) : o.map (fun s => f s && g s) = some true := by
  cases o with
  | none => cases h1
  | some s =>
    have e1 : f s = true := Option.some.inj h1
    have e2 : g s = true := Option.some.inj h2
    show some (f s && g s) = some true
    rw [e1, e2]
    rfl
end DL

namespace K35
open PySem PySem.Spec PyProof.Rows L2 DL
abbrev prg : Program := PySem.Challenge.pw_prizelog_k35_whole_rolls
def top (i : Nat) : Stmt := prg.main.body.getD i (.Pass ⟨0, 0, 0, 0⟩)
def fa : List He.Fa := [.free "isinstance", .free "int", .free "bool", .free "str", .free "len", .free "all", .free "tuple", .free "set", .free "sorted", .free "abs", .free "range", .free "max", .free "min", .int "MOST_SIGNS" 8, .int "LAST_HOUR" 100000, .int "MOST_ROWS" 60, .glo "is_whole", .glo "is_name", .glo "is_hour", .glo "is_row", .glo "is_roll", .glo "need_roll", .glo "need_name", .glo "need_hour", .glo "rows_of", .glo "standing", .glo "where_at", .glo "by_since", .glo "crew_at", .glo "stays_of", .glo "_law_pot", .glo "_law_take", .glo "_law_name", .glo "_law_names", .glo "_law_roll", .glo "_law_hours", .glo "_law_one_right", .glo "_law_row_more", .glo "_law_called", .glo "law", .keep "is_whole", .keep "is_name", .keep "is_hour", .keep "is_row", .keep "is_roll", .keep "need_roll", .keep "need_name", .keep "need_hour", .keep "rows_of", .keep "standing", .keep "where_at", .keep "by_since", .keep "crew_at", .keep "stays_of", .keep "_law_pot", .keep "_law_take", .keep "_law_name", .keep "_law_names", .keep "_law_roll", .keep "_law_hours", .keep "_law_one_right", .keep "_law_row_more", .keep "_law_called", .keep "law"]
def dD (x : Str) (i : Nat) : He.FnD := ⟨(x, none), x, x, defArgs (top i), defBody (top i), defScope (top i)⟩
def dA (x y : Str) (i : Nat) : He.FnD := ⟨(x, none), y, y, defArgs (top i), defBody (top i), defScope (top i)⟩
def fn : List He.FnD := [dD "is_whole" 1, dD "is_name" 12, dD "is_hour" 13, dD "is_row" 14, dD "is_roll" 15, dD "need_roll" 16, dD "need_name" 17, dD "need_hour" 18, dD "rows_of" 19, dD "standing" 20, dD "where_at" 21, dD "by_since" 22, dD "crew_at" 23, dD "stays_of" 24, dD "_law_pot" 26, dD "_law_take" 27, dD "_law_name" 28, dD "_law_names" 29, dD "_law_roll" 30, dD "_law_hours" 31, dD "_law_one_right" 32, dD "_law_row_more" 33, dD "_law_called" 34, dD "law" 35]
def fx : List Fx := [.txt "LETTERS" "abcdefghijklmnopqrstuvwxyz"]
def lam : List (Str × Str) := [("by_since", "by_since.<locals>.<lambda>")]
abbrev R : PySem.W.OpenRow := PySem.W.OpenLaw.row PySem.Challenge.rw_prizelog_k35_whole_rolls
def loose : List Str := "is_whole" :: "PrizeError" :: "NoRoll" :: "NoName" :: "NoHour" :: "LETTERS" :: "MOST_SIGNS" :: "LAST_HOUR" :: "MOST_ROWS" :: "is_name" :: "is_hour" :: "is_row" :: "is_roll" :: "need_roll" :: "need_name" :: "need_hour" :: "rows_of" :: "standing" :: "where_at" :: "by_since" :: "crew_at" :: "stays_of" :: "_law_pot" :: "_law_take" :: "_law_name" :: "_law_names" :: "_law_roll" :: "_law_hours" :: "_law_one_right" :: "_law_row_more" :: "_law_called" :: []
section
open PySem.W HandSHeadRun
noncomputable abbrev stp (w : World) (os : OsState) : Option SharedT := endF (stepQ (denQ tabQ) R.prog w) 20000 R.prog w os
theorem run_l (w : World) (os : OsState) : (stp w os).map (fun s => staticsOk (importedModules R.prog.main.body) (boot_heap w.params) s.abs.heap && boundF R.prog s.abs.heap && gensDone s.abs && laidKept (boot_heap w.params) s.abs.heap) = some true := by
  kernel_rfl
theorem run_s (w : World) (os : OsState) : (stp w os).map (fun s => seenQ (view R.prog [35]) loose (importedModules R.prog.main.body) (fun s => xlAt (view R.prog [35]) [] s && recOk R.toRowW.records s) s.abs) = some (openGood (view R.prog [35]) loose) := by
  kernel_rfl
theorem run_o (w : World) (os : OsState) : (stp w os).map (fun s => obsF 20000 fa fn fx lam (getT s)) = some (He.valE fn, true, true, true) := by
  kernel_rfl
theorem f_open : opening R.prog = plainProg R.prog.main.scope.names := by kernel_rfl
theorem f_fence (s : Shared) : fenceModules? R.prog s = some s := by kernel_rfl
theorem f_def : defOf (view R.prog [35]) R.name = some (topDef R.prog 35, []) := by kernel_rfl
theorem f_the : R.prog.theDef R.name = some ((topDef R.prog 35).params, (topDef R.prog 35).body, (topDef R.prog 35).scope) := by kernel_rfl
theorem f_kw : kwWritten? (topDef R.prog 35).params.kwonlyargs (topDef R.prog 35).params.kw_defaults = some [] := by kernel_rfl
theorem f_ok : (chainsOk (view R.prog [35]) && opensWell R.prog && (frees R.toRowW && R.within.isEmpty)) = true := by decide +kernel
theorem f_bare : R.prog.bare := ⟨rfl, rfl, rfl, rfl, rfl, by decide +kernel⟩
end
set_option maxHeartbeats 0 in
open PySem.W PySem.Calls PyProof.Rows in
theorem f_law (H : (PySem.W.OpenLaw.row PySem.Challenge.rw_prizelog_k35_whole_rolls).wellSaid = true -> (PySem.W.OpenLaw.row PySem.Challenge.rw_prizelog_k35_whole_rolls).Holds) : PySem.Challenge.rw_prizelog_k35_whole_rolls.Holds := by
  w_on; o_law
  exact H (by assumption)
end K35
namespace DL
open PySem PySem.Spec PyProof.Rows L2
/-- a tuple's object that has no dict -/
def PlT (o : Obj) : Prop := o.cls = .type "tuple" ∧ o.dict = none
section
variable {X : Cx} {pins : List (Addr × Obj)} {σ : L2.St} {H : Hp} {s : Shared}
theorem layZ (I : Inv X pins σ H s) {xs : List V} {its : List Value} {arr : Array Value} {tk : Nat} (r : Vals xs its) (ha : arr = its.toArray) (hz : xs.length ≤ sizeLine) :
    ∃ o, PlT o ∧ Inv X pins σ (upd H s.heap.objs.size (.frz o (.tup xs))) { s with heap := s.heap.push { cls := .type "tuple", data := .seq arr }, toks := tk } := by
  subst ha
  refine ⟨{ cls := .type "tuple", data := .seq its.toArray }, ⟨rfl, rfl⟩, I.laid (fun b u e => Heap.get?_push_of_some _ e) (Nat.le_refl _) ?_⟩
  exact ⟨Heap.get?_push_size _ rfl, hz, its, r, ⟨_, Heap.get?_push_size _ rfl, rfl, _, rfl⟩⟩
/-- what a new tuple of the items xs is answered with -/
def NewZ (H : Hp) (xs : List V) (Q : VK) : Prop := ∀ p o, H p = none → PlT o → Q (.ref p) (upd H p (.frz o (.tup xs)))
theorem endZ (I : Inv X pins σ H s) {xs : List V} {its : List Value} {arr : Array Value} {tk : Nat} {Q : VK} (r : Vals xs its) (ha : arr = its.toArray) (hz : xs.length ≤ sizeLine) (q : NewZ H xs Q) :
    EP X pins σ Q (.ref s.heap.objs.size) { s with heap := s.heap.push { cls := .type "tuple", data := .seq arr }, toks := tk } := by
  obtain ⟨o, po, J⟩ := layZ (tk := tk) I r ha hz
  exact ⟨.ref s.heap.objs.size, _, J, rfl, q _ _ (I.hok.fresh (Nat.le_refl _)) po⟩
end
section
variable {X : Cx} {a b e : Expr} {es : List Expr} {t : TA} {ta : TE} {pos : Pos}
def tTupZ (t : TA) : TE := fun σ H Q => t σ H fun xs H1 => xs.length ≤ sizeLine ∧ NewZ H1 xs Q
theorem pe_tupZ {x1} (h : PA X es t) : PE X (.Tuple es x1 pos) (tTupZ t) := ⟨fun pins s σ H Q I hq => by
  refine wpAny_Tuple_spliced (thn (h.run pos pins s σ H _ I hq) ?_)
  intro us s1 ⟨xs, H1, I1, r, z, q⟩
  exact ⟨r.length ▸ z, endZ (tk := s1.toks) I1 r rfl z q⟩⟩
def rCatZ (K : PySem.W.Frag) : R2 := fun x y H Q => ∃ a b xs ys, x = .ref a ∧ y = .ref b ∧ SqT K H a xs ∧ SqT K H b ys ∧ xs.length + ys.length ≤ sizeLine ∧
  (xs = [] → Q (.ref b) H) ∧ (xs ≠ [] → ys = [] → Q (.ref a) H) ∧ (xs ≠ [] → ys ≠ [] → NewZ H (xs ++ ys) Q)
theorem op_catZ : OpR X (binaryOp .Add) (rCatZ X.K) := by
  rintro pins s σ H _ _ v u Q I rx ry ⟨l, m, xs, ys, rfl, rfl, hl, hm, hz, q0, q1, q2⟩
  cases rx
  cases ry
  obtain ⟨us, r1, p1, _⟩ := I.tuple hl
  obtain ⟨ws, r2, p2, _⟩ := I.tuple hm
  by_cases hx : xs = []
  · subst hx
    cases r1
    exact cat_tup0 p1 p2 ⟨.ref m, H, I, rfl, q0 rfl⟩
  · refine HT.cat_tup p1 p2 (mt r1.nil_iff.mp hx) (fun z => ⟨.ref l, H, I, rfl, q1 hx (r2.nil_iff.mp z)⟩) (fun z => ?_) (by rw [← r1.length, ← r2.length]; exact hz)
    exact endZ (tk := s.toks) I (r1.append r2) rfl (by simpa using hz) (q2 hx (mt r2.nil_iff.mpr z))
def rSlZ (K : PySem.W.Frag) : V → Option Int → Option Int → Hp → VK → Prop := fun x lo hi H Q => ∃ a xs, x = .ref a ∧ SqT K H a xs ∧
  (HT.sIx xs.length 0 lo = 0 ∧ HT.sIx xs.length xs.length hi = xs.length → Q (.ref a) H) ∧ (¬ (HT.sIx xs.length 0 lo = 0 ∧ HT.sIx xs.length xs.length hi = xs.length) → NewZ H (cutV xs lo hi) Q)
theorem sl_tupZ : SlR X (rSlZ X.K) := by
  rintro pins s σ H _ v vl vu lo hi sl Q I rx hs pl pu ⟨l, xs, rfl, hl, q1, q2⟩
  cases rx
  obtain ⟨us, r, ht, hz⟩ := I.tuple hl
  have hn : us.toArray.size = xs.length := by rw [List.size_toArray, ← r.length]
  refine ⟨"tuple", _, PyProof.Rows.slot_tuple_getitem.lookup, ht.typeIs, ?_⟩
  by_cases hw : HT.sIx xs.length 0 lo = 0 ∧ HT.sIx xs.length xs.length hi = xs.length
  · exact getItem_tuple_whole ht hs pl pu (hn ▸ hw) ⟨.ref l, H, I, rfl, q1 hw⟩
  · refine HT.getItem_tuple_cut ht hs pl pu (hn ▸ hw) ?_ (hn ▸ hz)
    rw [hn]
    exact endZ (tk := s.toks) I ((r.drop _).take _) rfl (Nat.le_trans (cutV_length xs lo hi) hz) (q2 hw)
/-- tuple(..) of a list or a tuple -/
def kTupZ (K : PySem.W.Frag) (x : V) (H : Hp) (Q : VK) : Prop := (∃ p xs, x = .ref p ∧ SqL K H p xs ∧ NewZ H xs Q) ∨ (∃ p xs, x = .ref p ∧ SqT K H p xs ∧ Q (.ref p) H)
theorem rl_tupleZ (pins : List (Addr × Obj)) (s : Shared) (σ : L2.St) (H : Hp) (x : V) (v : Value) (Q : VK) (I : Inv X pins σ H s) (r : RelV x v) (h : kTupZ X.K x H Q) :
    wpAny (model X.prog X.w) X.A (call (.type "tuple") [v]) (EP X pins σ Q) X.xe s := by
  rcases h with ⟨l, xs, rfl, hs, q⟩ | ⟨l, xs, rfl, hs, q⟩
  · cases r
    obtain ⟨us, rv, pl, hz⟩ := I.list hs
    refine call_tuple_list pl.isList (fun h' hk => ?_) (by rw [List.size_toArray, ← rv.length]; exact hz)
    exact endZ (tk := s.toks) (s := { s with heap := h' }) (I.kept (t' := s.toks) hk) rv rfl hz q
  · cases r
    obtain ⟨us, rv, pl, hz⟩ := I.tuple hs
    exact call_tuple_tup pl ⟨.ref l, H, I, rfl, q⟩
theorem pe_tupleZ {p : Pos} (hg : Gl X "tuple") (hm : X.mg "tuple" = none) (ha : PE X a ta) (na : starEach [a] X.env = (false, eval a X.env) :: starEach [] X.env := by rfl) :
    PE X (.Call (.Name "tuple" p) [a] [] pos) (tThen ta (kTupZ X.K)) := ⟨fun pins s σ H Q I h =>
  Call_ (ld_blt I hg hm boot_tuple (PyProof.Rows.callWith_type1 (one_arg ha I h (fun v s2 x H2 I2 r q => rl_tupleZ pins s2 σ H2 x v Q I2 r q) na) na))⟩
/-- xs * k, k from 2 on -/
def rRepZ (K : PySem.W.Frag) : R2 := fun x y H Q => ∃ l k xs, x = .ref l ∧ y = .int k ∧ SqT K H l xs ∧ xs ≠ [] ∧ 2 ≤ k ∧ k ≤ 1000 ∧ xs.length ≤ 1000 ∧ NewZ H (List.replicate k.toNat xs).flatten Q
theorem op_repZ : OpR X (binaryOp .Mult) (rRepZ X.K) := by
  rintro pins s σ H _ _ v u Q I rx ry ⟨l, k, xs, rfl, rfl, hT, hne, h1, h2, hz, q⟩
  cases rx
  obtain ⟨t, rfl⟩ := ry
  obtain ⟨us, r, ⟨⟨cls, dd, data, sl⟩, ho, hc, n, hd⟩, _⟩ := I.tuple hT
  simp only at hc hd
  subst hc hd
  have hl : us.toArray.size = xs.length := by rw [List.size_toArray, ← r.length]
  have e0 : us.toArray.isEmpty = false := by
    cases us with
    | nil => exact absurd (r.nil_iff.mp rfl) hne
    | cons _ _ => rfl
  have big : k.toNat * xs.length ≤ 1000 * 1000 := Nat.mul_le_mul (by omega) hz
  have bigI : ((us.toArray.size : Nat) : Int) * k ≤ 1000000 := by
    have z : ((xs.length * k.toNat : Nat) : Int) ≤ 1000000 := by rw [Nat.mul_comm]; omega
    rw [hl]
    rw [Int.natCast_mul, Int.toNat_of_nonneg (by omega)] at z
    exact z
  have fl : (List.replicate k.toNat us).flatten.length ≤ sizeLine := by
    rw [PyProof.Rows.lm_len_rep_flat, ← r.length, sizeLine_eq]
    omega
  have c0 : (decide (k < -(2 ^ 63)) || decide (k ≥ 2 ^ 63)) = false := by
    rw [Bool.or_eq_false_iff]
    exact ⟨decide_eq_false (by omega), decide_eq_false (by omega)⟩
  have c1 : (us.toArray.isEmpty || k == 1) = false := by rw [e0, Bool.false_or, beq_eq_false_iff_ne]; omega
  have c2 : (decide (k ≤ 0) || us.toArray.isEmpty) = false := by rw [e0, Bool.or_false]; exact decide_eq_false (by omega)
  have c4 : Builtin.Tuple.tupleTooMany (((us.toArray.size : Nat) : Int) * k) = false := decide_eq_false (by rw [sizeLine_eq]; omega)
  refine wpAny_binaryOp_repeat_ref (T := "tuple") (U := "int") (by decide) ⟨_, ho, rfl⟩ (fun _ => typeIs_int _ k t) noFill_tuple_mul F.fills_int_mul F.slot_int_rmul repeat_tuple F.slot_int_index.lookup ?_
  refine call_meets F.slot_int_rmul (typeIs_int s k t) F.entry_int_rmul (F.args_int_rmul_2 _ _) (int_rmul_tuple k t l us.toArray n dd sl) ⟨ho, rfl, ⟨_, ho, rfl⟩, ?_⟩
  refine call_meets F.slot_tuple_mul ⟨_, ho, rfl⟩ F.entry_tuple_mul (F.args_tuple_mul_2 _ _) (tuple_mulW l us.toArray n dd sl k t c0 c1 c2 (by omega) c4 ?_) ⟨ho, ?_⟩
  · rw [size_rep, List.size_toArray]
    exact fl
  · rw [size_rep]
    exact endZ (tk := s.toks) I (r.rep k.toNat) rfl (by rw [PyProof.Rows.lm_len_rep_flat, sizeLine_eq]; omega) q
end
/-- a dict whose keys are tuples of whole numbers and texts: the keys, where they stand, the values -/
abbrev DicE (P : Program) (w : World) (a : Addr) (xs : List (List Key × Addr × Value)) : HO := .ext fun h => ((a == sysModules) = false ∧ xs.length ≤ sizeLine) ∧
  ∃ o es ep, h.get? a = some o ∧ o.ExactDict ∧ o.data = .dict es ep ∧ es.toList = xs.map (entryOfKey (tupleKind (mixKind P w))) ∧ (xs.map (·.1)).Nodup
end DL

namespace DL
open PySem PySem.Spec PyProof.Rows L2
open Evl (Ex)

/-- a list that stays as it is: tracked, known, or written at the top -/
def RdL (K : PySem.W.Frag) (F : Hp) (a : Addr) (xs : List V) : Prop :=
  Rd F a (.lst xs) ∨ ∃ (its : List Value) (n : Nat), K.lookup a = some { cls := .type "list", data := .seq its.toArray n } ∧ Vals xs its ∧ its.length ≤ sizeLine
theorem RdL.mono {K : PySem.W.Frag} {F F' : Hp} {a : Addr} {xs : List V} (e : Ex F F') (h : RdL K F a xs) : RdL K F' a xs := h.imp (Evl.ex_rd e) id
theorem RdL.of {K : PySem.W.Frag} {F : Hp} {a : Addr} {xs : List V} (h : F a = some (.lst xs)) : RdL K F a xs := .inl (.inl h)
theorem RdL.sq {K : PySem.W.Frag} {F : Hp} {a : Addr} {xs : List V} (h : RdL K F a xs) : SqL K F a xs := by
  rcases h with h | ⟨its, n, h1, h2, h3⟩
  · exact .inl h
  · exact .inr ⟨_, its.toArray, n, h1, rfl, rfl, rfl, by simpa using h3, by simpa using h2⟩
theorem RdL.obj {X : Cx} {pins : List (Addr × Obj)} {σ : L2.St} {H : Hp} {s : Shared} {a : Addr} {xs : List V} (h : RdL X.K H a xs) (I : Inv X pins σ H s) : xs.length ≤ sizeLine ∧ ∃ (its : List Value) (n : Nat), Vals xs its ∧ s.heap.get? a = some { cls := .type "list", data := .seq its.toArray n } := by
  rcases h with h | ⟨its, n, h1, h2, h3⟩
  · exact h.ok I.hok
  · exact ⟨by rw [h2.length]; exact h3, its, n, h2, I.kIn a _ h1⟩
structure XcF (K : PySem.W.Frag) (c : Str) : Prop where
  cls : ExcC K (He.ga K c)
  made : PySem.W.excIn K (He.ga K c) exBases "ValueError.__new__" = true
  kp : PySem.W.keepIn K (.ref (He.ga K c)) = true
  ty : PySem.W.typeIn K (.ref (He.ga K c)) = some (.type "type")
  exm : PySem.W.exmOne K (.ref (He.ga K c)) (.ref (He.ga K "PrizeError")) = some true
  ve : PySem.W.kitOne K (.ref (He.ga K c)) (.type "ValueError") = some true
  six : ∀ T ∈ exTypes, PySem.W.kitOne K (.ref (He.ga K c)) (.type T) = some false
  own : ∀ d ∈ exNames, PySem.W.kitOne K (.ref (He.ga K c)) (.ref (He.ga K d)) = some (exSub c d)
theorem xcB_ok {K : PySem.W.Frag} {c : Str} (h : xcB K c = true) : XcF K c := by
  unfold xcB at h
  simp only [Bool.and_eq_true, decide_eq_true_eq, List.all_eq_true] at h
  obtain ⟨a1, a2, a3, a4, a5, a6, a7, a8, a9, b1, b2, b3, b4, b5, b6⟩ := h
  exact ⟨⟨a1, a2, a3, a4, a5, a6, a7, a8⟩, a9, b1, b2, b3, b4, b5, b6⟩
/-- an exception's object -/
def ExcAt (C a : Addr) : Heap → Prop := fun h => ∃ oe vs, h.get? a = some oe ∧ oe.cls = .ref C ∧ oe.dict = none ∧ oe.data = .fields vs ∧ vs[2]? = some .none
/-- a tuple that stays, whose object has no dict -/
def TqT (K : PySem.W.Frag) (F : Hp) (a : Addr) (xs : List V) : Prop := (∃ o, F a = some (.frz o (.tup xs)) ∧ PlT o) ∨
  ∃ (o : Obj) (its : Array Value) (n : Nat), K.lookup a = some o ∧ PlT o ∧ o.data = .seq its n ∧ its.size ≤ sizeLine ∧ Vals xs its.toList
theorem TqT.sq {K : PySem.W.Frag} {F : Hp} {a : Addr} {xs : List V} (h : TqT K F a xs) : SqT K F a xs := by
  rcases h with ⟨o, h, _⟩ | ⟨o, its, n, h1, h2, h3, h4, h5⟩
  · exact .inl (.inr ⟨o, h⟩)
  · exact .inr ⟨o, its, n, h1, h2.1, h3, h4, h5⟩
theorem TqT.mono {K : PySem.W.Frag} {F F' : Hp} {a : Addr} {xs : List V} (e : Ex F F') (h : TqT K F a xs) : TqT K F' a xs := h.imp (fun ⟨o, h, p⟩ => ⟨o, e _ _ h, p⟩) id
/-- a dict whose keys are whole numbers and texts -/
abbrev KkE (P : Program) (w : World) (a : Addr) (vs : List (Key × V)) : HO := .ext fun h => vs.length ≤ sizeLine ∧ (a == sysModules) = false ∧ ∃ us, KV vs us ∧ h.DictOf (mixKind P w) a us
/-- a list of one's own, within another one or holding such -/
abbrev LsE (a : Addr) (vs : List V) : HO := .ext fun h => vs.length ≤ sizeLine ∧ ∃ (its : List Value) (n : Nat), Vals vs its ∧ h.get? a = some { cls := .type "list", data := .seq its.toArray n }
/-- a thing that is of none of the kinds asked for -/
def IsiNo (K : PySem.W.Frag) (H : Hp) (a : Addr) : Prop := ∀ (X : Cx) (pins : List (Addr × Obj)) (s : Shared) (σ : L2.St) (T : String) (Q : VK), X.K = K → T ∈ exTypes → Inv X pins σ H s → Q (.bl false) H →
  wpAny (model X.prog X.w) X.A (call (.builtin "isinstance") [.ref a, .type T]) (EP X pins σ Q) X.xe s
/-- what an opaque thing is known by: where it stands, or the def's name -/
def Opq (K : PySem.W.Frag) (a : Addr) (d : PyData) : Prop := d = .int (a : Nat) ∨ ∃ f : Str, d = .tuple [.str f] ∧ a = He.ga K f
mutual
inductive DR (K : PySem.W.Frag) (F : Hp) : V → PyData → Prop
  | non : DR K F .non .none
  | bl (b : Bool) : DR K F (.bl b) (.bool b)
  | int (i : Int) : DR K F (.int i) (.int i)
  | str (x : Str) : DR K F (.str x) (.str x)
  | lst {a : Addr} {xs : List V} {ds : List PyData} : RdL K F a xs → DRs K F xs ds → DR K F (.ref a) (.list ds)
  | tup {a : Addr} {xs : List V} {ds : List PyData} : TqT K F a xs → DRs K F xs ds → DR K F (.ref a) (.tuple ds)
  /-- a dict that stays, its keys whole numbers and texts -/
  | dct {a : Addr} {o : Obj} {vs : List (Key × V)} {ds : List (PyData × PyData)} : F a = some (.frz o (.dK vs)) → DM K F vs ds → DR K F (.ref a) (.dict ds)
  /-- a list that a def made and may still change -/
  | row {a : Addr} {xs : List V} {ds : List PyData} : F a = some (.lst xs) → DRs K F xs ds → DR K F (.ref a) (.dict [(.none, .list ds)])
  /-- a caught refusal of the class c -/
  | exc {a : Addr} {c : Str} : F a = some (.ext (ExcAt (He.ga K c) a)) → XcF K c → DR K F (.ref a) (.dict [(.none, .str c)])
  /-- a def, or a thing known by its place alone -/
  | opq {a : Addr} {d : PyData} : (∀ F', Ex F F' → IsiNo K F' a) → Opq K a d → DR K F (.ref a) (.dict [(.none, d)])
inductive DRs (K : PySem.W.Frag) (F : Hp) : List V → List PyData → Prop
  | nil : DRs K F [] []
  | cons {v : V} {vs : List V} {d : PyData} {ds : List PyData} : DR K F v d → DRs K F vs ds → DRs K F (v :: vs) (d :: ds)
inductive DM (K : PySem.W.Frag) (F : Hp) : List (Key × V) → List (PyData × PyData) → Prop
  | nil : DM K F [] []
  | int {n : Int} {v : V} {vs : List (Key × V)} {d : PyData} {ds : List (PyData × PyData)} : DR K F v d → DM K F vs ds → DM K F ((.inl n, v) :: vs) ((.int n, d) :: ds)
  | str {x : Str} {v : V} {vs : List (Key × V)} {d : PyData} {ds : List (PyData × PyData)} : DR K F v d → DM K F vs ds → DM K F ((.inr x, v) :: vs) ((.str x, d) :: ds)
end

section
variable {K : PySem.W.Frag} {F F' H H' : Hp}
mutual
theorem DR.mono (e : Ex F F') : ∀ {v : V} {d : PyData}, DR K F v d → DR K F' v d
  | _, _, .non => .non
  | _, _, .bl b => .bl b
  | _, _, .int i => .int i
  | _, _, .str x => .str x
  | _, _, .lst h r => .lst (h.mono e) (DRs.mono e r)
  | _, _, .tup h r => .tup (h.mono e) (DRs.mono e r)
  | _, _, .dct h m => .dct (e _ _ h) (DM.mono e m)
  | _, _, .row h r => .row (e _ _ h) (DRs.mono e r)
  | _, _, .exc h x => .exc (e _ _ h) x
  | _, _, .opq h x => .opq (fun F2 e2 => h F2 (e.trans e2)) x
theorem DRs.mono (e : Ex F F') : ∀ {v : List V} {d : List PyData}, DRs K F v d → DRs K F' v d
  | _, _, .nil => .nil
  | _, _, .cons a b => .cons (DR.mono e a) (DRs.mono e b)
theorem DM.mono (e : Ex F F') : ∀ {vs : List (Key × V)} {ds : List (PyData × PyData)}, DM K F vs ds → DM K F' vs ds
  | _, _, .nil => .nil
  | _, _, .int a b => .int (DR.mono e a) (DM.mono e b)
  | _, _, .str a b => .str (DR.mono e a) (DM.mono e b)
end
theorem DM.length : ∀ {vs : List (Key × V)} {ds : List (PyData × PyData)}, DM K F vs ds → vs.length = ds.length
  | _, _, .nil => rfl
  | _, _, .int _ b => congrArg (· + 1) b.length
  | _, _, .str _ b => congrArg (· + 1) b.length
theorem DRs.length : ∀ {vs : List V} {ds : List PyData}, DRs K F vs ds → vs.length = ds.length
  | _, _, .nil => rfl
  | _, _, .cons _ b => congrArg (· + 1) b.length
theorem DRs.get : ∀ {vs : List V} {ds : List PyData} {i : Nat} {d : PyData}, DRs K F vs ds → ds[i]? = some d → ∃ v, vs[i]? = some v ∧ DR K F v d
  | _, _, _, _, .nil, h => by simp at h
  | _, _, 0, _, .cons a b, h => by simp at h; subst h; exact ⟨_, rfl, a⟩
  | _, _, i + 1, d, .cons a b, h => by
    obtain ⟨v, h1, h2⟩ := b.get (i := i) (d := d) (by simpa using h)
    exact ⟨v, by simpa using h1, h2⟩
theorem DRs.append : ∀ {vs ws : List V} {ds es : List PyData}, DRs K F vs ds → DRs K F ws es → DRs K F (vs ++ ws) (ds ++ es)
  | _, _, _, _, .nil, h => h
  | _, _, _, _, .cons a b, h => .cons a (b.append h)
theorem DRs.take : ∀ {vs : List V} {ds : List PyData} (n : Nat), DRs K F vs ds → DRs K F (vs.take n) (ds.take n)
  | _, _, 0, _ => .nil
  | _, _, _ + 1, .nil => .nil
  | _, _, n + 1, .cons a b => .cons a (b.take n)
theorem DRs.drop : ∀ {vs : List V} {ds : List PyData} (n : Nat), DRs K F vs ds → DRs K F (vs.drop n) (ds.drop n)
  | _, _, 0, h => h
  | _, _, _ + 1, .nil => .nil
  | _, _, n + 1, .cons a b => b.drop n
theorem DRs.set : ∀ {vs : List V} {ds : List PyData} (n : Nat) {v : V} {d : PyData}, DR K F v d → DRs K F vs ds → DRs K F (vs.set n v) (ds.set n d)
  | _, _, _, _, _, _, .nil => .nil
  | _, _, 0, _, _, h, .cons a b => .cons h b
  | _, _, n + 1, _, _, h, .cons a b => .cons a (b.set n h)
theorem DRs.one {v : V} {d : PyData} (h : DR K F v d) : DRs K F [v] [d] := .cons h .nil
theorem DRs.inv1 {vs : List V} {d : PyData} (h : DRs K F vs [d]) : ∃ v, vs = [v] ∧ DR K F v d := by
  cases h with
  | cons a b => cases b; exact ⟨_, rfl, a⟩
theorem DRs.inv2 {vs : List V} {d e : PyData} (h : DRs K F vs [d, e]) : ∃ v w, vs = [v, w] ∧ DR K F v d ∧ DR K F w e := by
  cases h with
  | cons a b =>
    obtain ⟨w, rfl, r⟩ := b.inv1
    exact ⟨_, w, rfl, a, r⟩
theorem DR.inv_int {v : V} {i : Int} (h : DR K F v (.int i)) : v = .int i := by cases h; rfl
theorem DR.inv_bool {v : V} {i : Bool} (h : DR K F v (.bool i)) : v = .bl i := by cases h; rfl
theorem DR.inv_str {v : V} {i : Str} (h : DR K F v (.str i)) : v = .str i := by cases h; rfl
theorem DR.inv_tupZ {v : V} {ds : List PyData} (h : DR K F v (.tuple ds)) : ∃ a xs, v = .ref a ∧ TqT K F a xs ∧ DRs K F xs ds := by cases h with | tup a b => exact ⟨_, _, rfl, a, b⟩
theorem DR.inv_tup {v : V} {ds : List PyData} (h : DR K F v (.tuple ds)) : ∃ a xs, v = .ref a ∧ SqT K F a xs ∧ DRs K F xs ds := by cases h with | tup a b => exact ⟨_, _, rfl, a.sq, b⟩
theorem DR.inv_lst {v : V} {ds : List PyData} (h : DR K F v (.list ds)) : ∃ a xs, v = .ref a ∧ RdL K F a xs ∧ DRs K F xs ds := by cases h with | lst a b => exact ⟨_, _, rfl, a, b⟩
end

/-- things of one's own: dicts whose keys are tuples of whole numbers and texts; whose keys are whole numbers and texts; lists of lists -/
inductive Own where
  | tk (kvs : List (List Key × PyData))
  | kk (kvs : List (PyData × PyData))
  | mt (rows : List (List PyData))
inductive SD where
  | un
  | dat (d : PyData)
  | cel (p : Bool) (xs : List PyData)
  /-- a thing of one's own -/
  | dic (w : Own)
/-- what is fixed for a def's whole run -/
structure Zx (T : List (Addr × Str)) where
  F0 : Hp
  H0 : Hp
  A0 : Nat → Option Addr
  Pr0 : Hp
  P : Program
  w : World
structure Gx (Z : Zx T) where
  Pr : Hp
  px : Ex Z.Pr0 Pr
  pl : ∀ a o, Pr a = some o → ∀ ps, o ≠ .tbl ps
variable {T : List (PySem.Addr × PySem.Str)} {Z : Zx T}
def Gx.hid (g : Gx Z) (D : Addr) (vs : List V) (h : g.Pr D = none) : Gx Z := ⟨upd g.Pr D (.lst vs), fun a o e => by
  have q := g.px a o e
  have ne : a ≠ D := fun z => by rw [z, h] at q; cases q
  rw [upd_ne ne]
  exact q, fun a o e => by
  by_cases z : a = D
  · subst z
    rw [upd_same] at e
    cases e
    exact fun _ y => by cases y
  · rw [upd_ne z] at e
    exact g.pl a o e⟩
abbrev Gx.F0 (_ : Gx Z) : Hp := Z.F0
abbrev Gx.H0 (_ : Gx Z) : Hp := Z.H0
abbrev Gx.A0 (_ : Gx Z) : Nat → Option Addr := Z.A0
/-- the dict's keys and values as they stand -/
def DicR (K : PySem.W.Frag) (F : Hp) (kvs : List (List Key × PyData)) (xs : List (List Key × Addr × Value)) : Prop :=
  Paired (fun p x => p.1 = x.1 ∧ TqT K F x.2.1 (p.1.map kV) ∧ ∃ v, DR K F v p.2 ∧ RelV v x.2.2) kvs xs
theorem DicR.mono {K : PySem.W.Frag} {F F' : Hp} (e : Ex F F') {kvs : List (List Key × PyData)} {xs : List (List Key × Addr × Value)} (h : DicR K F kvs xs) : DicR K F' kvs xs :=
  Paired.mapP h fun _ _ ⟨h1, h2, v, h3, h4⟩ => ⟨h1, h2.mono e, v, h3.mono e, h4⟩
/-- what stands for such a thing at a, with further places bs -/
def OwnR (K : PySem.W.Frag) (Z : Zx T) (F H : Hp) (a : Addr) (bs : List Addr) : Own → Prop
  | .tk kvs => bs = [] ∧ ∃ xs, H a = some (DicE Z.P Z.w a xs) ∧ DicR K F kvs xs
  | .kk ds => bs = [] ∧ ∃ vs, H a = some (KkE Z.P Z.w a vs) ∧ DM K F vs ds
  | .mt rows => (H a = some (LsE a (bs.map .ref)) ∧ (a :: bs).Nodup) ∧ Paired (fun b row => ∃ us, H b = some (LsE b us) ∧ DRs K F us row) bs rows
structure OwnAt (K : PySem.W.Frag) (g : Gx Z) (F H : Hp) (a : Addr) (bs : List Addr) (w : Own) : Prop where
  rel : OwnR K Z F H a bs w
  out : ∀ x ∈ a :: bs, F x = none ∧ g.H0 x = none ∧ g.Pr x = none ∧ ∃ φ, H x = some (.ext φ)
structure DicsB (K : PySem.W.Frag) (g : Gx Z) (F : Hp) (env : List SD) (σ : L2.St) (H : Hp) (B : Nat → List Addr) : Prop where
  at_ : ∀ (i : Nat) (w : Own), env[i]? = some (.dic w) → ∃ a, σ[i]? = some (some (.ref a)) ∧ OwnAt K g F H a (B i) w
  sep : ∀ (i j : Nat) (w w' : Own) (a b : Addr), env[i]? = some (.dic w) → env[j]? = some (.dic w') → σ[i]? = some (some (.ref a)) → σ[j]? = some (some (.ref b)) → i ≠ j → ∀ x ∈ a :: B i, x ∉ b :: B j
def DicsOk (K : PySem.W.Frag) (g : Gx Z) (F : Hp) (env : List SD) (σ : L2.St) (H : Hp) : Prop := ∃ B, DicsB K g F env σ H B
section
variable {K : PySem.W.Frag} {g g' : Gx Z} {F F' : Hp} {env : List SD} {σ : L2.St} {H H' : Hp}
theorem OwnR.keep {a : Addr} {bs : List Addr} {w : Own} (r : OwnR K Z F H a bs w) (e : Ex F F') (hk : ∀ x ∈ a :: bs, H' x = H x) : OwnR K Z F' H' a bs w := by
  cases w with
  | tk kvs =>
    obtain ⟨rfl, xs, h1, h2⟩ := r
    exact ⟨rfl, xs, (hk a List.mem_cons_self).trans h1, h2.mono e⟩
  | kk ds =>
    obtain ⟨rfl, xs, h1, h2⟩ := r
    exact ⟨rfl, xs, (hk a List.mem_cons_self).trans h1, h2.mono e⟩
  | mt rows =>
    obtain ⟨⟨h1, h2⟩, h3⟩ := r
    refine ⟨⟨(hk a List.mem_cons_self).trans h1, h2⟩, ?_⟩
    have hk2 : ∀ x ∈ bs, H' x = H x := fun x hx => hk x (List.mem_cons_of_mem _ hx)
    clear h1 h2 hk
    induction h3 with
    | nil => exact .nil
    | cons h t ih =>
      obtain ⟨us, z1, z2⟩ := h
      exact .cons ⟨us, (hk2 _ List.mem_cons_self).trans z1, z2.mono e⟩ (ih fun x hx => hk2 x (List.mem_cons_of_mem _ hx))
theorem OwnAt.keep {a : Addr} {bs : List Addr} {w : Own} (r : OwnAt K g F H a bs w) (e : Ex F F') (hp : ∀ x φ, H x = some (.ext φ) → g.Pr x = none → g'.Pr x = none) (hk : ∀ x φ, H x = some (.ext φ) → F x = none → F' x = none ∧ H' x = H x) : OwnAt K g' F' H' a bs w where
  rel := r.rel.keep e fun x hx => by
    obtain ⟨z1, _, _, φ, z4⟩ := r.out x hx
    exact (hk x φ z4 z1).2
  out := fun x hx => by
    obtain ⟨z1, z2, z3, φ, z4⟩ := r.out x hx
    obtain ⟨y1, y2⟩ := hk x φ z4 z1
    exact ⟨y1, z2, hp x φ z4 z3, φ, y2.trans z4⟩
theorem DicsB.keep {B : Nat → List Addr} (d : DicsB K g F env σ H B) (e : Ex F F') (hp : ∀ x φ, H x = some (.ext φ) → g.Pr x = none → g'.Pr x = none) (hk : ∀ x φ, H x = some (.ext φ) → F x = none → F' x = none ∧ H' x = H x) : DicsB K g' F' env σ H' B :=
  ⟨fun i w hw => let ⟨a, z1, z2⟩ := d.at_ i w hw; ⟨a, z1, z2.keep e hp hk⟩, d.sep⟩
theorem DicsOk.keep (d : DicsOk K g F env σ H) (e : Ex F F') (hp : ∀ x φ, H x = some (.ext φ) → g.Pr x = none → g'.Pr x = none) (hk : ∀ x φ, H x = some (.ext φ) → F x = none → F' x = none ∧ H' x = H x) : DicsOk K g' F' env σ H' := by
  obtain ⟨B, h⟩ := d
  exact ⟨B, h.keep e hp hk⟩
/-- no thing of one's own stands here -/
theorem DicsB.there {B : Nat → List Addr} (d : DicsB K g F env σ H B) {j : Nat} {w : Own} {b x : Addr} (h1 : env[j]? = some (.dic w)) (h2 : σ[j]? = some (some (.ref b))) (hx : x ∈ b :: B j) : F x = none ∧ g.H0 x = none ∧ g.Pr x = none ∧ ∃ φ, H x = some (.ext φ) := by
  obtain ⟨a, z1, z2⟩ := d.at_ j w h1
  rw [h2] at z1
  cases z1
  exact z2.out x hx
theorem DicsOk.none (h : ∀ (i : Nat) (w : Own), env[i]? ≠ some (.dic w)) : DicsOk K g F env σ H := ⟨fun _ => [], fun i w e => absurd e (h i w), fun i _ w _ _ _ e => absurd e (h i w)⟩
theorem DicsOk.setE (d : DicsOk K g F env σ H) {i : Nat} {x : SD} (hx : ∀ w, x ≠ .dic w) : DicsOk K g F (env.set i x) σ H := by
  have old : ∀ {j : Nat} {w : Own}, (env.set i x)[j]? = some (.dic w) → env[j]? = some (.dic w) := fun {j w} h => by
    rw [List.getElem?_set] at h
    by_cases e : i = j
    · rw [if_pos e] at h
      split at h
      · exact absurd (Option.some.inj h) (hx w)
      · cases h
    · rwa [if_neg e] at h
  obtain ⟨B, h1, h2⟩ := d
  exact ⟨B, fun j w h => h1 j w (old h), fun j l w w' a b e1 e2 => h2 j l w w' a b (old e1) (old e2)⟩
theorem DicsOk.set (d : DicsOk K g F env σ H) {i : Nat} {x : SD} {v : Option V} (hx : ∀ w, x ≠ .dic w) : DicsOk K g F (env.set i x) (σ.set i v) H := by
  have ne : ∀ {j : Nat} {w : Own}, (env.set i x)[j]? = some (.dic w) → i ≠ j := fun {j w} h e => by
    rw [List.getElem?_set, if_pos e] at h
    split at h
    · exact absurd (Option.some.inj h) (hx w)
    · cases h
  have st : ∀ {j : Nat}, i ≠ j → (σ.set i v)[j]? = σ[j]? := fun n => List.getElem?_set_ne n
  obtain ⟨B, h1, h2⟩ := d.setE (i := i) hx
  exact ⟨B, fun j w h => let ⟨a, z1, z2⟩ := h1 j w h; ⟨a, by rw [st (ne h)]; exact z1, z2⟩, fun j l w w' a b e1 e2 e3 e4 => h2 j l w w' a b e1 e2 (by rw [← st (ne e1)]; exact e3) (by rw [← st (ne e2)]; exact e4)⟩
end
/-- an object that was there: as it was, or a table with more in it -/
def Sty (o : HO) (x : Option HO) : Prop := x = some o ∨ ∃ ps more, o = .tbl ps ∧ x = some (.tbl (ps ++ more))
theorem Sty.same {o : HO} {x : Option HO} (h : Sty o x) (n : ∀ ps, o ≠ .tbl ps) : x = some o := by
  rcases h with h | ⟨ps, _, e, _⟩
  · exact h
  · exact absurd e (n ps)
theorem Sty.lst {vs : List V} {x : Option HO} (h : Sty (.lst vs) x) : x = some (.lst vs) := h.same fun _ z => by cases z
theorem Sty.ext {f : Heap → Prop} {x : Option HO} (h : Sty (.ext f) x) : x = some (.ext f) := h.same fun _ z => by cases z
theorem Sty.there {o : HO} {x : Option HO} (h : Sty o x) : ∃ u, x = some u := by
  rcases h with h | ⟨ps, m, _, h⟩
  · exact ⟨_, h⟩
  · exact ⟨_, h⟩
theorem Sty.trans {o : HO} {x y : Option HO} (h : Sty o x) (k : ∀ u, x = some u → Sty u y) : Sty o y := by
  rcases h with h | ⟨ps, m, e, h⟩
  · exact k _ h
  · rcases k _ h with z | ⟨ps', m', e', z⟩
    · exact .inr ⟨ps, m, e, z⟩
    · cases e'
      exact .inr ⟨ps, m ++ m', e, by rw [z, Array.append_assoc]⟩
/-- what was there stays, but where N says no; the tables are right -/
structure Frm (T : List (Addr × Str)) (H0 : Hp) (N : Addr → Prop) (H : Hp) : Prop where
  stay : ∀ a o, H0 a = some o → N a → Sty o (H a)
  tab : LamX.Tabs T H
section
variable {H0 H H' : Hp} {N N' : Addr → Prop}
theorem Frm.new (f : Frm T H0 N H) {p : Addr} {o : HO} (h : H p = none) : Frm T H0 N (upd H p o) where
  stay := fun a u e n => by
    have z := f.stay a u e n
    obtain ⟨w, hw⟩ := z.there
    rw [upd_ne (ne_of_none hw h)]
    exact z
  tab := f.tab.ext fun b u e => by rw [upd_ne (ne_of_none e h)]; exact e
theorem codeO_lst {c : Addr} {q : Str} {vs : List V} : LamX.CodeO c q ≠ .lst vs := fun z => by
  unfold LamX.CodeO at z
  cases z
theorem Frm.putO (f : Frm T H0 N H) {a : Addr} {o0 o1 : HO} (h : H a = some o0) (t1 : ∀ ps, o0 ≠ .tbl ps) (t2 : ∀ q, o0 ≠ LamX.CodeO a q) (n : ∀ o, H0 a = some o → ¬ N a) : Frm T H0 N (upd H a o1) where
  stay := fun b u e m => by
    have ne : b ≠ a := fun z => by
      subst z
      exact n u e m
    rw [upd_ne ne]
    exact f.stay b u e m
  tab := fun p hp => by
    obtain ⟨ps, h1, h2, h3⟩ := f.tab p hp
    have n1 : p.1 ≠ a := fun z => by rw [z, h] at h1; exact t1 _ (Option.some.inj h1)
    refine ⟨ps, by rw [upd_ne n1]; exact h1, h2, fun pos cv hc => ?_⟩
    obtain ⟨c, e, e2⟩ := h3 pos cv hc
    have n2 : c ≠ a := fun z => by rw [z, h] at e2; exact t2 _ (Option.some.inj e2)
    exact ⟨c, e, by rw [upd_ne n2]; exact e2⟩
theorem Frm.put (f : Frm T H0 N H) {a : Addr} {vs ys : List V} (h : H a = some (.lst vs)) (n : ∀ o, H0 a = some o → ¬ N a) : Frm T H0 N (upd H a (.lst ys)) := f.putO h (fun _ z => by cases z) (fun _ z => codeO_lst z.symm) n
theorem dicE_code {P : Program} {w : World} {a : Addr} {xs : List (List Key × Addr × Value)} {q : Str} : DicE P w a xs ≠ LamX.CodeO a q := fun z => by
  unfold DicE LamX.CodeO at z
  injection z with z
  have e : (({ objs := Array.replicate a { cls := .none, data := .plain } } : Heap).push { cls := .none, data := .fields #[.none, .str q 0] }).get? a = some { cls := .none, data := .fields #[.none, .str q 0] } := by
    have := Heap.get?_push_size { objs := Array.replicate a { cls := .none, data := .plain } } (o := { cls := .none, data := .fields #[.none, .str q 0] }) rfl
    simpa using this
  have y := (congrFun z (({ objs := Array.replicate a { cls := .none, data := .plain } } : Heap).push { cls := .none, data := .fields #[.none, .str q 0] })).mpr ⟨_, _, 0, e, rfl, rfl⟩
  obtain ⟨_, o, es, ep, e1, _, e2, _⟩ := y
  rw [e] at e1
  cases e1
  cases e2
theorem Frm.trans (f : Frm T H0 N H) (g : Frm T H N' H') (n : ∀ a o, H0 a = some o → N a → N' a) : Frm T H0 N H' :=
  ⟨fun a o e m => (f.stay a o e m).trans fun u hu => g.stay a u hu (n a o e m), g.tab⟩
theorem Frm.refl (t : LamX.Tabs T H) : Frm T H N H := ⟨fun _ _ e _ => .inl e, t⟩
theorem Frm.weak (f : Frm T H0 N H) (n : ∀ a o, H0 a = some o → N' a → N a) : Frm T H0 N' H := ⟨fun a o e m => f.stay a o e (n a o e m), f.tab⟩
end
/-- what never changes has grown; no table is among it -/
def OldF (F0 F : Hp) : Prop := Ex F0 F ∧ ∀ a ps, F a ≠ some (.tbl ps)
theorem OldF.new {F0 F : Hp} (h : OldF F0 F) {p : Addr} {o : HO} (hp : F p = none) (ho : ∀ ps, o ≠ .tbl ps) : OldF F0 (upd F p o) :=
  ⟨h.1.trans (Ex.new hp), fun a ps e => by
    by_cases z : a = p
    · subst z
      rw [upd_same] at e
      exact ho ps (Option.some.inj e)
    · rw [upd_ne z] at e
      exact h.2 a ps e⟩
structure Ok (K : PySem.W.Frag) (g : Gx Z) (F : Hp) (env : List SD) (σ : L2.St) (H : Hp) : Prop where
  len : env.length = σ.length
  fh : Ex F H
  dat : ∀ (i : Nat) (d : PyData), env[i]? = some (.dat d) → ∃ v, σ[i]? = some (some v) ∧ DR K F v d
  cel : ∀ (i : Nat) (p : Bool) (xs : List PyData), env[i]? = some (.cel p xs) → ∃ a vs, σ[i]? = some (some (.ref a)) ∧ F a = none ∧ H a = some (.lst vs) ∧ DRs K F vs xs ∧ (p = true → g.A0 i = some a) ∧ (p = false → g.H0 a = none)
  sep : ∀ (i j : Nat) (p q : Bool) (xs ys : List PyData) (a : Addr), env[i]? = some (.cel p xs) → env[j]? = some (.cel q ys) → σ[i]? = some (some (.ref a)) → σ[j]? = some (some (.ref a)) → i = j
  pin : ∀ (i : Nat) (a : Addr), g.A0 i = some a → ∃ xs, env[i]? = some (.cel true xs)
  frame : Frm T g.H0 (fun a => ∀ i, g.A0 i ≠ some a) H
  newF : ∀ (a : Addr) (o : HO), F a = some o → g.F0 a = some o ∨ g.H0 a = none
  oldF : OldF g.F0 F
  prot : ∀ (a : Addr) (o : HO), g.Pr a = some o → H a = some o ∧ F a = none ∧ ∀ (j : Nat) (p : Bool) (ys : List PyData), env[j]? = some (.cel p ys) → σ[j]? ≠ some (some (.ref a))
  dic : DicsOk K g F env σ H
section
variable {K : PySem.W.Frag} {g : Gx Z} {F F' : Hp} {env : List SD} {σ : L2.St} {H : Hp}

theorem Ok.fresh0 (k : Ok K g F env σ H) {p : Addr} (h : H p = none) : g.H0 p = none := by
  cases e : g.H0 p with
  | none => rfl
  | some o =>
    by_cases q : ∃ i, g.A0 i = some p
    · obtain ⟨i, hi⟩ := q
      obtain ⟨xs, hx⟩ := k.pin i p hi
      obtain ⟨a, vs, _, _, h2, _, h3, _⟩ := k.cel i true xs hx
      have h3 := h3 rfl
      rw [hi] at h3
      cases h3
      rw [h] at h2
      cases h2
    · obtain ⟨u, z⟩ := (k.frame.stay p o e fun i hi => q ⟨i, hi⟩).there
      rw [h] at z
      cases z
theorem fnone (e : Ex F H) {p : Addr} (h : H p = none) : F p = none := by
  cases q : F p with
  | none => rfl
  | some o =>
    rw [e p o q] at h
    cases h
theorem ex_both (e : Ex F H) {p : Addr} {o : HO} (h : H p = none) : Ex (upd F p o) (upd H p o) := fun b u q => by
  by_cases hb : b = p
  · subst hb
    rw [upd_same] at q ⊢
    exact q
  · rw [upd_ne hb] at q ⊢
    exact e b u q
/-- a new thing that never changes -/
theorem Ok.alloc (k : Ok K g F env σ H) {p : Addr} {o : HO} (h : H p = none) (ho : ∀ ps, o ≠ .tbl ps := by intro _ z; cases z) : Ok K g (upd F p o) env σ (upd H p o) where
  len := k.len
  fh := ex_both k.fh h
  dat := fun i d e => by
    obtain ⟨v, h1, h2⟩ := k.dat i d e
    exact ⟨v, h1, h2.mono (Ex.new (fnone k.fh h))⟩
  cel := fun i q xs e => by
    obtain ⟨a, vs, h1, h2, h3, h4, h5⟩ := k.cel i q xs e
    have ne : a ≠ p := ne_of_none h3 h
    exact ⟨a, vs, h1, by rw [upd_ne ne]; exact h2, by rw [upd_ne ne]; exact h3, h4.mono (Ex.new (fnone k.fh h)), h5⟩
  sep := k.sep
  pin := k.pin
  frame := k.frame.new h
  newF := fun a u e => by
    by_cases hb : a = p
    · subst hb
      exact .inr (k.fresh0 h)
    · rw [upd_ne hb] at e
      exact k.newF a u e
  oldF := k.oldF.new (fnone k.fh h) ho
  prot := fun a u e => by
    obtain ⟨z1, z2, z3⟩ := k.prot a u e
    have ne : a ≠ p := ne_of_none z1 h
    exact ⟨by rw [upd_ne ne]; exact z1, by rw [upd_ne ne]; exact z2, z3⟩
  dic := k.dic.keep (Ex.new (fnone k.fh h)) (fun _ _ _ z => z) fun a _ h1 h2 => by
    have ne : a ≠ p := ne_of_none h1 h
    exact ⟨by rw [upd_ne ne]; exact h2, upd_ne ne⟩
/-- a new thing of no name yet -/
theorem Ok.extra (k : Ok K g F env σ H) {p : Addr} {o : HO} (h : H p = none) : Ok K g F env σ (upd H p o) where
  len := k.len
  fh := fun a u e => by
    have q := k.fh a u e
    rw [upd_ne (ne_of_none q h)]
    exact q
  dat := k.dat
  cel := fun i q xs e => by
    obtain ⟨a, vs, h1, h2, h3, h4, h5⟩ := k.cel i q xs e
    have ne : a ≠ p := ne_of_none h3 h
    exact ⟨a, vs, h1, h2, by rw [upd_ne ne]; exact h3, h4, h5⟩
  sep := k.sep
  pin := k.pin
  frame := k.frame.new h
  newF := k.newF
  oldF := k.oldF
  prot := fun a u e => by
    obtain ⟨z1, z2, z3⟩ := k.prot a u e
    have ne : a ≠ p := ne_of_none z1 h
    exact ⟨by rw [upd_ne ne]; exact z1, z2, z3⟩
  dic := k.dic.keep (Ex.refl F) (fun _ _ _ z => z) fun a xs h1 h2 => ⟨h2, upd_ne (ne_of_none h1 h)⟩
theorem get_set {α : Type} {l : List α} {i j : Nat} {x y : α} (h : (l.set i x)[j]? = some y) : (i = j ∧ y = x) ∨ (i ≠ j ∧ l[j]? = some y) := by
  rw [List.getElem?_set] at h
  by_cases e : i = j
  · rw [if_pos e] at h
    split at h
    · exact .inl ⟨e, (Option.some.inj h).symm⟩
    · cases h
  · rw [if_neg e] at h
    exact .inr ⟨e, h⟩
theorem set_ne {α : Type} {l : List α} {i j : Nat} {x : α} (h : i ≠ j) : (l.set i x)[j]? = l[j]? := List.getElem?_set_ne h
theorem set_eq {α : Type} {l : List α} {i : Nat} {x y : α} (h : l[i]? = some y) : (l.set i x)[i]? = some x := by
  obtain ⟨h1, _⟩ := List.getElem?_eq_some_iff.mp h
  exact List.getElem?_set_self h1
/-- a slot that is no parameter's cell -/
def NoPar (env : List SD) (i : Nat) : Prop := ∀ xs, env[i]? ≠ some (.cel true xs)
/-- a name gets a datum -/
theorem Ok.setD (k : Ok K g F env σ H) {i : Nat} {d : PyData} {v : V} (hp : NoPar env i) (h : DR K F v d) : Ok K g F (env.set i (.dat d)) (σ.set i (some v)) H where
  len := by simp [k.len]
  fh := k.fh
  dat := fun j e hj => by
    rcases get_set hj with ⟨rfl, q⟩ | ⟨n, q⟩
    · cases q
      have hl : i < σ.length := by
        obtain ⟨h1, _⟩ := List.getElem?_eq_some_iff.mp hj
        rw [List.length_set, k.len] at h1
        exact h1
      exact ⟨v, List.getElem?_set_self hl, h⟩
    · rw [set_ne n]
      exact k.dat j e q
  cel := fun j q xs hj => by
    rcases get_set hj with ⟨_, q⟩ | ⟨n, q⟩
    · cases q
    · rw [set_ne n]
      exact k.cel j _ xs q
  sep := fun a b p q xs ys c h1 h2 h3 h4 => by
    rcases get_set h1 with ⟨_, e⟩ | ⟨n1, e1⟩
    · cases e
    rcases get_set h2 with ⟨_, e⟩ | ⟨n2, e2⟩
    · cases e
    rw [set_ne n1] at h3
    rw [set_ne n2] at h4
    exact k.sep a b p q xs ys c e1 e2 h3 h4
  pin := fun j a e => by
    obtain ⟨xs, q⟩ := k.pin j a e
    have n : i ≠ j := fun z => by subst z; exact hp xs q
    exact ⟨xs, by rw [set_ne n]; exact q⟩
  frame := k.frame
  newF := k.newF
  oldF := k.oldF
  prot := fun a u e => by
    obtain ⟨z1, z2, z3⟩ := k.prot a u e
    refine ⟨z1, z2, fun j p ys hj => ?_⟩
    rcases get_set hj with ⟨_, q⟩ | ⟨n, q⟩
    · cases q
    · rw [set_ne n]
      exact z3 j p ys q
  dic := k.dic.set fun _ z => by cases z
/-- a name gets a new cell of its own -/
theorem Ok.setC (k : Ok K g F env σ H) {i : Nat} {xs : List PyData} {a : Addr} {vs : List V} (hp : NoPar env i) (hF : F a = none) (hH : H a = some (.lst vs)) (h : DRs K F vs xs) (h0 : g.H0 a = none) (hpr : g.Pr a = none)
    (nw : ∀ (j : Nat) (p : Bool) (ys : List PyData), env[j]? = some (.cel p ys) → σ[j]? ≠ some (some (.ref a))) : Ok K g F (env.set i (.cel false xs)) (σ.set i (some (.ref a))) H where
  len := by simp [k.len]
  fh := k.fh
  dat := fun j e hj => by
    rcases get_set hj with ⟨_, q⟩ | ⟨n, q⟩
    · cases q
    · rw [set_ne n]
      exact k.dat j e q
  cel := fun j q ys hj => by
    rcases get_set hj with ⟨rfl, q⟩ | ⟨n, q⟩
    · cases q
      have hl : i < σ.length := by
        obtain ⟨h1, _⟩ := List.getElem?_eq_some_iff.mp hj
        rw [List.length_set, k.len] at h1
        exact h1
      exact ⟨a, vs, List.getElem?_set_self hl, hF, hH, h, (fun z => by cases z), fun _ => h0⟩
    · rw [set_ne n]
      exact k.cel j _ ys q
  sep := fun j l p q us ys c h1 h2 h3 h4 => by
    rcases get_set h1 with ⟨e1, _⟩ | ⟨n1, e1⟩
    · rcases get_set h2 with ⟨e2, _⟩ | ⟨n2, e2⟩
      · exact e1.symm.trans e2
      · rcases get_set h3 with ⟨_, e3⟩ | ⟨n3, _⟩
        · cases e3
          rw [set_ne n2] at h4
          exact absurd h4 (nw l q ys e2)
        · exact absurd e1 n3
    · rcases get_set h2 with ⟨e2, _⟩ | ⟨n2, e2⟩
      · rcases get_set h4 with ⟨_, e3⟩ | ⟨n3, _⟩
        · cases e3
          rw [set_ne n1] at h3
          exact absurd h3 (nw j p us e1)
        · exact absurd e2 n3
      · rw [set_ne n1] at h3
        rw [set_ne n2] at h4
        exact k.sep j l p q us ys c e1 e2 h3 h4
  pin := fun j b e => by
    obtain ⟨ys, q⟩ := k.pin j b e
    have n : i ≠ j := fun z => by subst z; exact hp ys q
    exact ⟨ys, by rw [set_ne n]; exact q⟩
  frame := k.frame
  newF := k.newF
  oldF := k.oldF
  prot := fun b u e => by
    obtain ⟨z1, z2, z3⟩ := k.prot b u e
    refine ⟨z1, z2, fun j p ys hj => ?_⟩
    rcases get_set hj with ⟨rfl, q⟩ | ⟨n, q⟩
    · intro z
      rcases get_set z with ⟨_, y⟩ | ⟨n, _⟩
      · cases y
        rw [hpr] at e
        cases e
      · exact n rfl
    · rw [set_ne n]
      exact z3 j p ys q
  dic := k.dic.set fun _ z => by cases z
/-- a name is forgotten (its slot may hold anything) -/
theorem Ok.setU (k : Ok K g F env σ H) {i : Nat} {o : Option V} (hp : NoPar env i) : Ok K g F (env.set i .un) (σ.set i o) H where
  len := by simp [k.len]
  fh := k.fh
  dat := fun j e hj => by
    rcases get_set hj with ⟨_, q⟩ | ⟨n, q⟩
    · cases q
    · rw [set_ne n]
      exact k.dat j e q
  cel := fun j q ys hj => by
    rcases get_set hj with ⟨_, q⟩ | ⟨n, q⟩
    · cases q
    · rw [set_ne n]
      exact k.cel j _ ys q
  sep := fun a b p q xs ys c h1 h2 h3 h4 => by
    rcases get_set h1 with ⟨_, e⟩ | ⟨n1, e1⟩
    · cases e
    rcases get_set h2 with ⟨_, e⟩ | ⟨n2, e2⟩
    · cases e
    rw [set_ne n1] at h3
    rw [set_ne n2] at h4
    exact k.sep a b p q xs ys c e1 e2 h3 h4
  pin := fun j b e => by
    obtain ⟨ys, q⟩ := k.pin j b e
    have n : i ≠ j := fun z => by subst z; exact hp ys q
    exact ⟨ys, by rw [set_ne n]; exact q⟩
  frame := k.frame
  newF := k.newF
  oldF := k.oldF
  prot := fun a u e => by
    obtain ⟨z1, z2, z3⟩ := k.prot a u e
    refine ⟨z1, z2, fun j p ys hj => ?_⟩
    rcases get_set hj with ⟨_, q⟩ | ⟨n, q⟩
    · cases q
    · rw [set_ne n]
      exact z3 j p ys q
  dic := k.dic.set fun _ z => by cases z
/-- a name gets a new thing of its own -/
theorem Ok.setW (k : Ok K g F env σ H) {B : Nat → List Addr} (db : DicsB K g F env σ H B) {i : Nat} {w : Own} {a : Addr} {bs : List Addr} (hp : NoPar env i) (r : OwnAt K g F H a bs w)
    (nw : ∀ (j : Nat) (w' : Own) (b : Addr), env[j]? = some (.dic w') → σ[j]? = some (some (.ref b)) → ∀ x ∈ a :: bs, x ∉ b :: B j) : Ok K g F (env.set i (.dic w)) (σ.set i (some (.ref a))) H := by
  have k2 := k.setU (o := some (.ref a)) hp
  have hl : ∀ {r : SD}, (env.set i (SD.dic w))[i]? = some r → (σ.set i (some (V.ref a)))[i]? = some (some (.ref a)) := fun hj => by
    obtain ⟨h1, _⟩ := List.getElem?_eq_some_iff.mp hj
    rw [List.length_set, k.len] at h1
    exact List.getElem?_set_self h1
  have oth : ∀ {j : Nat} {r : SD}, i ≠ j → (env.set i (SD.dic w))[j]? = some r → (env.set i SD.un)[j]? = some r := fun {j r} n e => by rw [set_ne n] at e ⊢; exact e
  refine ⟨by simp [k.len], k.fh, fun j d e => ?_, fun j p ys e => ?_, fun j l p q us ys c h1 h2 h3 h4 => ?_, fun j b e => ?_, k.frame, k.newF, k.oldF, fun b u e => ?_, fun j => if j = i then bs else B j, fun j w' e => ?_, fun j l w1 w2 b c e1 e2 h1 h2 n x hx => ?_⟩
  · rcases get_set e with ⟨_, z⟩ | ⟨n, z⟩
    · cases z
    · exact k2.dat j d (oth n e)
  · rcases get_set e with ⟨_, z⟩ | ⟨n, z⟩
    · cases z
    · exact k2.cel j p ys (oth n e)
  · rcases get_set h1 with ⟨_, z⟩ | ⟨n1, z⟩
    · cases z
    rcases get_set h2 with ⟨_, z⟩ | ⟨n2, z⟩
    · cases z
    exact k2.sep j l p q us ys c (oth n1 h1) (oth n2 h2) h3 h4
  · obtain ⟨ys, z⟩ := k.pin j b e
    have n : i ≠ j := fun y => by subst y; exact hp ys z
    exact ⟨ys, by rw [set_ne n]; exact z⟩
  · obtain ⟨z1, z2, z3⟩ := k2.prot b u e
    refine ⟨z1, z2, fun j p ys hj => ?_⟩
    rcases get_set hj with ⟨_, z⟩ | ⟨n, z⟩
    · cases z
    · exact z3 j p ys (oth n hj)
  · rcases get_set e with ⟨rfl, z⟩ | ⟨n, z⟩
    · cases z
      exact ⟨a, hl e, by rw [if_pos rfl]; exact r⟩
    · obtain ⟨b, z1, z2⟩ := db.at_ j w' z
      exact ⟨b, by rw [set_ne n]; exact z1, by rw [if_neg fun q => n q.symm]; exact z2⟩
  · rcases get_set e1 with ⟨rfl, z⟩ | ⟨n1, z1⟩
    · rcases get_set e2 with ⟨q, _⟩ | ⟨n2, z2⟩
      · exact absurd q n
      · rw [hl e1] at h1
        cases h1
        rw [set_ne n2] at h2
        rw [if_pos rfl] at hx
        rw [if_neg fun q => n2 q.symm]
        exact nw l w2 c z2 h2 x hx
    · rw [set_ne n1] at h1
      rw [if_neg fun q => n1 q.symm] at hx
      rcases get_set e2 with ⟨rfl, z⟩ | ⟨n2, z2⟩
      · rw [hl e2] at h2
        cases h2
        rw [if_pos rfl]
        exact fun y => nw j w1 b z1 h1 x y hx
      · rw [set_ne n2] at h2
        rw [if_neg fun q => n2 q.symm]
        exact db.sep j l w1 w2 b c z1 z2 h1 h2 n x hx
/-- a thing of one's own is changed at x -/
theorem Ok.writeW (k : Ok K g F env σ H) {B : Nat → List Addr} (db : DicsB K g F env σ H B) {i : Nat} {w w' : Own} {a x : Addr} {φ : Heap → Prop} {o' : HO} {bs' : List Addr} (he : env[i]? = some (.dic w)) (hs : σ[i]? = some (some (.ref a))) (hx : x ∈ a :: B i)
    (hH : H x = some (.ext φ)) (nc : ∀ q, HO.ext φ ≠ LamX.CodeO x q) (r : OwnAt K g F (upd H x o') a bs' w')
    (sub : ∀ y ∈ bs', y ∈ a :: B i ∨ ∀ (j : Nat) (w2 : Own) (b : Addr), env[j]? = some (.dic w2) → σ[j]? = some (some (.ref b)) → y ∉ b :: B j) : Ok K g F (env.set i (.dic w')) σ (upd H x o') := by
  obtain ⟨f1, f2, f3, _⟩ := db.there he hs hx
  have ne : ∀ {b : Addr} {vs : List V}, H b = some (.lst vs) → b ≠ x := fun {b vs} e z => by subst z; rw [hH] at e; cases e
  have oth : ∀ {j : Nat} {s : SD}, (∀ z, s ≠ .dic z) → (env.set i (.dic w'))[j]? = some s → env[j]? = some s := fun {j s} n e => by
    rcases get_set e with ⟨_, z⟩ | ⟨_, z⟩
    · exact absurd z (n _)
    · exact z
  have back : ∀ {l : Nat} {z : Own}, (env.set i (.dic w'))[l]? = some (.dic z) → ∃ w2, env[l]? = some (.dic w2) := fun {l z} e => by
    rcases get_set e with ⟨rfl, _⟩ | ⟨_, z⟩
    · exact ⟨_, he⟩
    · exact ⟨_, z⟩
  refine ⟨by simp [k.len], fun b u q => ?_, fun j e hj => k.dat j e (oth (fun _ z => by cases z) hj), fun j q us hj => ?_, fun j l q r us ws c z1 z2 z3 z4 => k.sep j l q r us ws c (oth (fun _ z => by cases z) z1) (oth (fun _ z => by cases z) z2) z3 z4, fun j b e => ?_, k.frame.putO hH (fun _ z => by cases z) nc (fun o e _ => by rw [f2] at e; cases e), k.newF, k.oldF, fun b u e => ?_,
    fun j => if j = i then bs' else B j, fun j w2 e => ?_, fun j l w1 w2 b c e1 e2 h1 h2 n y hy => ?_⟩
  · have n : b ≠ x := fun z => by rw [z, f1] at q; cases q
    rw [upd_ne n]
    exact k.fh b u q
  · obtain ⟨b, vs, z1, z2, z3, z4⟩ := k.cel j q us (oth (fun _ z => by cases z) hj)
    exact ⟨b, vs, z1, z2, by rw [upd_ne (ne z3)]; exact z3, z4⟩
  · obtain ⟨us, q⟩ := k.pin j b e
    have n : i ≠ j := fun z => by subst z; rw [he] at q; cases q
    exact ⟨us, by rw [set_ne n]; exact q⟩
  · obtain ⟨z1, z2, z3⟩ := k.prot b u e
    have n : b ≠ x := fun z => by subst z; rw [f3] at e; cases e
    exact ⟨by rw [upd_ne n]; exact z1, z2, fun j q us hj => z3 j q us (oth (fun _ z => by cases z) hj)⟩
  · rcases get_set e with ⟨rfl, z⟩ | ⟨n, z⟩
    · cases z
      exact ⟨a, hs, by rw [if_pos rfl]; exact r⟩
    · obtain ⟨b, z1, z2⟩ := db.at_ j w2 z
      have sep := db.sep j i w2 w b a z he z1 hs fun q => n q.symm
      have kp : ∀ y ∈ b :: B j, upd H x o' y = H y := fun y hy => upd_ne fun q => sep y hy (q ▸ hx)
      refine ⟨b, z1, ?_⟩
      rw [if_neg fun q => n q.symm]
      refine ⟨z2.rel.keep (Ex.refl F) kp, fun y hy => ?_⟩
      obtain ⟨y1, y2, y3, y4⟩ := z2.out y hy
      exact ⟨y1, y2, y3, by rw [kp y hy]; exact y4⟩
  · obtain ⟨v1, e1'⟩ := back e1
    obtain ⟨v2, e2'⟩ := back e2
    have old := db.sep j l v1 v2 b c e1' e2' h1 h2 n
    by_cases q1 : j = i
    · subst q1
      rw [if_pos rfl] at hy
      rw [hs] at h1
      cases h1
      rw [if_neg fun q => n q.symm]
      rcases List.mem_cons.mp hy with rfl | hy
      · exact old _ List.mem_cons_self
      · rcases sub y hy with z | z
        · exact old y z
        · exact z l v2 c e2' h2
    · rw [if_neg q1] at hy
      by_cases q2 : l = i
      · subst q2
        rw [if_pos rfl]
        rw [hs] at h2
        cases h2
        intro hz
        rcases List.mem_cons.mp hz with rfl | hz
        · exact old _ hy List.mem_cons_self
        · rcases sub y hz with z | z
          · exact old y hy z
          · exact z j v1 b e1' h1 hy
      · rw [if_neg q2]
        exact old y hy
/-- a name gets a new thing of its own, at one new place -/
theorem Ok.newW (k : Ok K g F env σ H) {i : Nat} {w : Own} {p : Addr} {φ : Heap → Prop} (hp : H p = none) (np : NoPar env i) (r : OwnR K Z F (upd H p (.ext φ)) p [] w) : Ok K g F (env.set i (.dic w)) (σ.set i (some (.ref p))) (upd H p (.ext φ)) := by
  obtain ⟨B, db⟩ := k.dic
  have k1 := k.extra (o := .ext φ) hp
  have db1 : DicsB K g F env σ (upd H p (.ext φ)) B := db.keep (Ex.refl F) (fun _ _ _ z => z) fun a ψ h1 h2 => ⟨h2, upd_ne (ne_of_none h1 hp)⟩
  have pr : g.Pr p = none := by
    cases e : g.Pr p with
    | none => rfl
    | some o => rw [(k.prot p o e).1] at hp; cases hp
  refine k1.setW db1 np ⟨r, fun x hx => ?_⟩ fun j w' b e1 e2 x hx hy => ?_
  · rw [List.mem_singleton.mp hx]
    exact ⟨fnone k.fh hp, k.fresh0 hp, pr, φ, upd_same⟩
  · rw [List.mem_singleton.mp hx] at hy
    obtain ⟨_, _, _, ψ, z⟩ := db.there e1 e2 hy
    rw [hp] at z
    cases z
/-- a cell's content is changed -/
theorem Ok.write (k : Ok K g F env σ H) {i : Nat} {p : Bool} {xs ys : List PyData} {a : Addr} {vs : List V} (he : env[i]? = some (.cel p xs)) (hs : σ[i]? = some (some (.ref a))) (h : DRs K F vs ys) :
    Ok K g F (env.set i (.cel p ys)) σ (upd H a (.lst vs)) := by
  obtain ⟨a', vs0, h1, h2, h3, h4, h5, h6⟩ := k.cel i p xs he
  rw [hs] at h1
  cases h1
  refine ⟨by simp [k.len], fun b u q => ?_, fun j e hj => ?_, fun j q us hj => ?_, fun j l q r us ws c h1 h2 h3 h4 => ?_, fun j b e => ?_, k.frame.put h3 (fun o e n => ?_), k.newF, k.oldF, fun b u e => ?_, ((k.dic.setE (i := i) (x := .cel p ys) fun _ z => by cases z).keep (Ex.refl F) (fun _ _ _ z => z) fun b _ e n => ⟨n, upd_ne fun z => by rw [z, h3] at e; cases e⟩)⟩
  · have ne : b ≠ a := fun z => by rw [z, h2] at q; cases q
    rw [upd_ne ne]
    exact k.fh b u q
  · rcases get_set hj with ⟨_, q⟩ | ⟨n, q⟩
    · cases q
    · exact k.dat j e q
  · rcases get_set hj with ⟨rfl, q⟩ | ⟨n, q⟩
    · cases q
      exact ⟨a, vs, hs, h2, upd_same, h, h5, h6⟩
    · obtain ⟨b, ws, z1, z2, z3, z4, z5⟩ := k.cel j _ us q
      have ne : b ≠ a := fun z => by
        subst z
        exact n (k.sep i j _ _ _ _ b he q hs z1)
      exact ⟨b, ws, z1, z2, by rw [upd_ne ne]; exact z3, z4, z5⟩
  · have f : ∀ {j : Nat} {q : Bool} {us : List PyData}, (env.set i (SD.cel p ys))[j]? = some (.cel q us) → ∃ q' us', env[j]? = some (.cel q' us') := fun {j q us} z => by
      rcases get_set z with ⟨rfl, _⟩ | ⟨_, z⟩
      · exact ⟨_, _, he⟩
      · exact ⟨_, _, z⟩
    obtain ⟨_, _, f1⟩ := f h1
    obtain ⟨_, _, f2⟩ := f h2
    exact k.sep j l _ _ _ _ c f1 f2 h3 h4
  · obtain ⟨us, q⟩ := k.pin j b e
    by_cases n : i = j
    · subst n
      rw [he] at q
      cases q
      exact ⟨ys, set_eq he⟩
    · exact ⟨us, by rw [set_ne n]; exact q⟩
  · cases p with
    | true => exact n i (h5 rfl)
    | false =>
      rw [h6 rfl] at e
      cases e
  · obtain ⟨z1, z2, z3⟩ := k.prot b u e
    have ne : b ≠ a := fun z => by
      subst z
      exact z3 i p xs he hs
    refine ⟨by rw [upd_ne ne]; exact z1, z2, fun j q us hj => ?_⟩
    rcases get_set hj with ⟨rfl, _⟩ | ⟨_, z⟩
    · exact z3 _ p xs he
    · exact z3 j q us z
/-- an own cell becomes a datum -/
theorem Ok.freeze (k : Ok K g F env σ H) {i : Nat} {xs : List PyData} (he : env[i]? = some (.cel false xs)) : ∃ F', Ex F F' ∧ Ok K g F' (env.set i (.dat (.list xs))) σ H := by
  obtain ⟨a, vs, h1, h2, h3, h4, h5, h6⟩ := k.cel i false xs he
  have h6 := h6 rfl
  have ex : Ex F (upd F a (.lst vs)) := Ex.new h2
  refine ⟨upd F a (.lst vs), ex, by simp [k.len], fun b u q => ?_, fun j e hj => ?_, fun j q us hj => ?_, fun j l q r us ws c z1 z2 z3 z4 => ?_, fun j b e => ?_, k.frame, fun b u q => ?_, k.oldF.new h2 (fun _ z => by cases z), fun b u e => ?_, ((k.dic.setE (i := i) (x := .dat (.list xs)) fun _ z => by cases z).keep ex (fun _ _ _ z => z) fun b ys e n => ⟨by rw [upd_ne fun z => by rw [z, h3] at e; cases e]; exact n, rfl⟩)⟩
  · by_cases z : b = a
    · subst z
      rw [upd_same] at q
      exact h3.trans q
    · rw [upd_ne z] at q
      exact k.fh b u q
  · rcases get_set hj with ⟨rfl, q⟩ | ⟨n, q⟩
    · cases q
      exact ⟨_, h1, .lst (RdL.of upd_same) (h4.mono ex)⟩
    · obtain ⟨v, z1, z2⟩ := k.dat j e q
      exact ⟨v, z1, z2.mono ex⟩
  · rcases get_set hj with ⟨_, q⟩ | ⟨n, q⟩
    · cases q
    · obtain ⟨b, ws, z1, z2, z3, z4, z5⟩ := k.cel j _ us q
      have ne : b ≠ a := fun z => by
        subst z
        exact n (k.sep i j _ _ _ _ b he q h1 z1)
      exact ⟨b, ws, z1, by rw [upd_ne ne]; exact z2, z3, z4.mono ex, z5⟩
  · rcases get_set z1 with ⟨_, e⟩ | ⟨n1, e1⟩
    · cases e
    rcases get_set z2 with ⟨_, e⟩ | ⟨n2, e2⟩
    · cases e
    exact k.sep j l q r us ws c e1 e2 z3 z4
  · obtain ⟨ys, q⟩ := k.pin j b e
    have n : i ≠ j := fun z => by subst z; rw [he] at q; cases q
    exact ⟨ys, by rw [set_ne n]; exact q⟩
  · by_cases z : b = a
    · subst z
      exact .inr h6
    · rw [upd_ne z] at q
      exact k.newF b u q
  · obtain ⟨z1, z2, z3⟩ := k.prot b u e
    have ne : b ≠ a := fun z => by
      subst z
      exact z3 i false xs he h1
    refine ⟨z1, by rw [upd_ne ne]; exact z2, fun j q us hj => ?_⟩
    rcases get_set hj with ⟨_, z⟩ | ⟨_, z⟩
    · cases z
    · exact z3 j q us z
end
end DL

namespace DL
variable {T : List (PySem.Addr × PySem.Str)} {Z : Zx T}
open PySem PySem.Spec PyProof.Rows L2
open Evl (Ex)

/-- by a truth -/
def bIf (b : Bool) (p q : Prop) : Prop := match b with
  | true => p
  | false => q
theorem bIf_t {p q : Prop} : bIf true p q = p := rfl
theorem bIf_f {p q : Prop} : bIf false p q = q := rfl
/-- a datum that is a truth -/
def bT (d : PyData) (K : Bool → Prop) : Prop := match d with
  | .bool b => K b
  | _ => False
theorem bT_inv {d : PyData} {K : Bool → Prop} (h : bT d K) : ∃ b, d = .bool b ∧ K b := by
  cases d <;> first | exact ⟨_, rfl, h⟩ | exact h.elim
theorem bIf_and {b : Bool} {q : Prop} (h : bIf b q False) : b = true ∧ q := by
  cases b
  · exact h.elim
  · exact ⟨rfl, h⟩
abbrev DE := List SD → (PyData → List SD → Prop) → Prop
abbrev DX := List SD → (SD → List SD → Prop) → Prop
abbrev DT := List SD → (Bool → List SD → Prop) → Prop
abbrev DA := List SD → (List PyData → List SD → Prop) → Prop
/-- a result: a datum, or a new cell that no name holds yet -/
def ResOk (K : PySem.W.Frag) (g : Gx Z) (F : Hp) (env : List SD) (σ : L2.St) (H : Hp) (v : V) : SD → Prop
  | .un => False
  | .dat d => DR K F v d
  | .cel _ xs => ∃ a vs, v = .ref a ∧ F a = none ∧ H a = some (.lst vs) ∧ DRs K F vs xs ∧ g.H0 a = none ∧ g.Pr a = none ∧ ∀ (j : Nat) (p : Bool) (ys : List PyData), env[j]? = some (.cel p ys) → σ[j]? ≠ some (some (.ref a))
  | .dic _ => False
def liftE (K : PySem.W.Frag) (Z : Zx T) (w : DE) : TE := fun σ H Q => ∃ (g : Gx Z) (F : Hp) (env : List SD) (P : PyData → List SD → Prop), Ok K g F env σ H ∧ w env P ∧
  ∀ d env' v F' H', P d env' → Ex F F' → Ok K g F' env' σ H' → DR K F' v d → Q v H'
def liftX (K : PySem.W.Frag) (Z : Zx T) (w : DX) : TE := fun σ H Q => ∃ (g : Gx Z) (F : Hp) (env : List SD) (P : SD → List SD → Prop), Ok K g F env σ H ∧ w env P ∧
  ∀ r env' v F' H', P r env' → Ex F F' → Ok K g F' env' σ H' → ResOk K g F' env' σ H' v r → Q v H'
def liftT (K : PySem.W.Frag) (Z : Zx T) (w : DT) : TT := fun σ H Q => ∃ (g : Gx Z) (F : Hp) (env : List SD) (P : Bool → List SD → Prop), Ok K g F env σ H ∧ w env P ∧
  ∀ b env' F' H', P b env' → Ex F F' → Ok K g F' env' σ H' → Q b H'
def liftA (K : PySem.W.Frag) (Z : Zx T) (w : DA) : TA := fun σ H Q => ∃ (g : Gx Z) (F : Hp) (env : List SD) (P : List PyData → List SD → Prop), Ok K g F env σ H ∧ w env P ∧
  ∀ ds env' vs F' H', P ds env' → Ex F F' → Ok K g F' env' σ H' → DRs K F' vs ds → Q vs H'
theorem PE.of {X : Cx} {e : Expr} {t t' : TE} (h : PE X e t) (w : ∀ σ H Q, t' σ H Q → t σ H Q) : PE X e t' := ⟨fun pins s σ H Q I q => h.run pins s σ H Q I (w σ H Q q)⟩
theorem PT.of {X : Cx} {e : Expr} {t t' : TT} (h : PT X e t) (w : ∀ σ H Q, t' σ H Q → t σ H Q) : PT X e t' := ⟨fun pins s σ H Q I q => h.run pins s σ H Q I (w σ H Q q)⟩
theorem PW.of {X : Cx} {e : Expr} {t t' : TT} (h : PW X e t) (w : ∀ σ H Q, t' σ H Q → t σ H Q) : PW X e t' := ⟨fun wh pins s σ H Q I q => h.run wh pins s σ H Q I (w σ H Q q)⟩
theorem PA.of {X : Cx} {e : List Expr} {t t' : TA} (h : PA X e t) (w : ∀ σ H Q, t' σ H Q → t σ H Q) : PA X e t' := ⟨fun p pins s σ H Q I q => h.run p pins s σ H Q I (w σ H Q q)⟩
theorem PS.of {X : Cx} {e : Stmt} {t t' : TS} (h : PS X e t) (w : ∀ D σ H, t' D σ H → t D σ H) : PS X e t' := ⟨fun pins s σ H D I q => h.run pins s σ H D I (w D σ H q)⟩
theorem PSs.of {X : Cx} {e : List Stmt} {t t' : TS} (h : PSs X e t) (w : ∀ D σ H, t' D σ H → t D σ H) : PSs X e t' := ⟨fun pins s σ H D I q => h.run pins s σ H D I (w D σ H q)⟩
section
variable {K : PySem.W.Frag} {g : Gx Z} {F F' : Hp} {env : List SD} {σ : L2.St} {H : Hp}
/-- a new cell that no name holds -/
theorem Ok.newCell (k : Ok K g F env σ H) {p : Addr} (h : H p = none) {vs : List V} {xs : List PyData} (r : DRs K F vs xs) :
    Ok K g F env σ (upd H p (.lst vs)) ∧ ResOk K g F env σ (upd H p (.lst vs)) (.ref p) (.cel false xs) := by
  refine ⟨k.extra h, p, vs, rfl, fnone k.fh h, upd_same, r, k.fresh0 h, ?_, fun j q ys e z => ?_⟩
  · cases e : g.Pr p with
    | none => rfl
    | some u =>
      have z := (k.prot p u e).1
      rw [h] at z
      cases z
  obtain ⟨a, ws, h1, _, h3, _⟩ := k.cel j q ys e
  rw [z] at h1
  cases h1
  rw [h] at h3
  cases h3
/-- such a cell becomes a datum -/
theorem Ok.freezeR (k : Ok K g F env σ H) {v : V} {p : Bool} {xs : List PyData} (h : ResOk K g F env σ H v (.cel p xs)) : ∃ F', Ex F F' ∧ Ok K g F' env σ H ∧ DR K F' v (.list xs) ∧ DR K F' v (.dict [(.none, .list xs)]) := by
  obtain ⟨a, vs, rfl, hF, hH, r, h0, hpr, nw⟩ := h
  have ex : Ex F (upd F a (.lst vs)) := Ex.new hF
  refine ⟨upd F a (.lst vs), ex, ⟨k.len, fun b u q => ?_, fun i d e => ?_, fun i q ys e => ?_, k.sep, k.pin, k.frame, fun b u q => ?_, k.oldF.new hF (fun _ z => by cases z), fun b u e => ?_, (k.dic.keep ex (fun _ _ _ z => z) fun b ys e n => ⟨by rw [upd_ne fun z => by rw [z, hH] at e; cases e]; exact n, rfl⟩)⟩, .lst (RdL.of upd_same) (r.mono ex), .row upd_same (r.mono ex)⟩
  · by_cases z : b = a
    · subst z
      rw [upd_same] at q
      exact hH.trans q
    · rw [upd_ne z] at q
      exact k.fh b u q
  · obtain ⟨v, z1, z2⟩ := k.dat i d e
    exact ⟨v, z1, z2.mono ex⟩
  · obtain ⟨b, ws, z1, z2, z3, z4, z5⟩ := k.cel i q ys e
    have ne : b ≠ a := fun z => by
      subst z
      exact nw i q ys e z1
    exact ⟨b, ws, z1, by rw [upd_ne ne]; exact z2, z3, z4.mono ex, z5⟩
  · by_cases z : b = a
    · subst z
      exact .inr h0
    · rw [upd_ne z] at q
      exact k.newF b u q
  · obtain ⟨z1, z2, z3⟩ := k.prot b u e
    have ne : b ≠ a := fun z => by
      subst z
      rw [hpr] at e
      cases e
    exact ⟨z1, by rw [upd_ne ne]; exact z2, z3⟩
theorem Ok.freezeP (k : Ok K g F env σ H) {v : V} {p : Bool} {xs : List PyData} (h : ResOk K g F env σ H v (.cel p xs)) : ∃ F', Ex F F' ∧ Ok K g F' env σ H ∧ DR K F' v (.list xs) := by
  obtain ⟨F', h1, h2, h3, _⟩ := k.freezeR h
  exact ⟨F', h1, h2, h3⟩
/-- a new tuple, a new list that never changes -/
theorem Ok.newTup (k : Ok K g F env σ H) {p : Addr} {o : Obj} (h : H p = none) (ho : PlT o) {vs : List V} {xs : List PyData} (r : DRs K F vs xs) :
    Ex F (upd F p (.frz o (.tup vs))) ∧ Ok K g (upd F p (.frz o (.tup vs))) env σ (upd H p (.frz o (.tup vs))) ∧ DR K (upd F p (.frz o (.tup vs))) (.ref p) (.tuple xs) := by
  have ex : Ex F (upd F p (.frz o (.tup vs))) := Ex.new (fnone k.fh h)
  exact ⟨ex, k.alloc h, .tup (.inl ⟨o, upd_same, ho⟩) (r.mono ex)⟩
theorem Ok.newLst (k : Ok K g F env σ H) {p : Addr} (h : H p = none) {vs : List V} {xs : List PyData} (r : DRs K F vs xs) :
    Ex F (upd F p (.lst vs)) ∧ Ok K g (upd F p (.lst vs)) env σ (upd H p (.lst vs)) ∧ DR K (upd F p (.lst vs)) (.ref p) (.list xs) := by
  have ex : Ex F (upd F p (.lst vs)) := Ex.new (fnone k.fh h)
  exact ⟨ex, k.alloc h, .lst (RdL.of upd_same) (r.mono ex)⟩
theorem drH (k : Ok K g F env σ H) {v : V} {d : PyData} (h : DR K F v d) : DR K H v d := h.mono k.fh
theorem drsH (k : Ok K g F env σ H) {v : List V} {d : List PyData} (h : DRs K F v d) : DRs K H v d := h.mono k.fh
end

section
variable {X : Cx} {a b c e : Expr} {es : List Expr} {pos : Pos} {wa wb wc w : DE} {K : PySem.W.Frag}
abbrev dVar (i : Nat) (env : List SD) (P : PyData → List SD → Prop) : Prop := match env[i]? with
  | some (.dat d) => P d env
  | _ => False
theorem lift_var {i : Nat} {σ : L2.St} {H : Hp} {Q : VK} (h : liftE K Z (dVar i) σ H Q) : tVar i σ H Q := by
  obtain ⟨g, F, env, P, k, w, q⟩ := h
  unfold dVar at w
  split at w
  · rename_i d e
    obtain ⟨v, h1, h2⟩ := k.dat i d e
    exact ⟨v, h1, q d env v F H w (Ex.refl F) k h2⟩
  · exact w.elim
theorem dv (i : Nat) {x : Str} {pos : Pos} (hN : X.N[i]? = some x := by rfl) (hv : Vis X.env.scope x := by first | exact Or.inl rfl | exact Or.inr (Or.inl rfl) | exact Or.inr (Or.inr rfl)) (hd : (x == ("__debug__" : Str)) = false := by decide)
    (hcd : (x == ("__classdict__" : Str)) = false := by decide) : PE X (.Name x pos) (liftE X.K Z (dVar i)) := PE.of (pe_var hN hv hd hcd) fun _ _ _ h => lift_var h
abbrev dC (d : PyData) (env : List SD) (P : PyData → List SD → Prop) : Prop := P d env
theorem lift_c {v : V} {d : PyData} (hv : ∀ F : Hp, DR K F v d) {σ : L2.St} {H : Hp} {Q : VK} (h : liftE K Z (dC d) σ H Q) : tC v σ H Q := by
  obtain ⟨g, F, env, P, k, w, q⟩ := h
  exact q d env v F H w (Ex.refl F) k (hv F)
theorem di {i : Int} {j pos} : PE X (.Constant (.int i) j pos) (liftE X.K Z (dC (.int i))) := PE.of pe_int fun _ _ _ h => lift_c (fun _ => .int i) h
theorem db {i : Bool} {j pos} : PE X (.Constant (.bool i) j pos) (liftE X.K Z (dC (.bool i))) := PE.of pe_bl fun _ _ _ h => lift_c (fun _ => .bl i) h
theorem dn {j pos} : PE X (.Constant .none j pos) (liftE X.K Z (dC .none)) := PE.of pe_non fun _ _ _ h => lift_c (fun _ => .non) h
theorem ds {i : Str} {j pos} : PE X (.Constant (.str i) j pos) (liftE X.K Z (dC (.str i))) := PE.of pe_str fun _ _ _ h => lift_c (fun _ => .str i) h
/-- a module's constant -/
theorem dglob {x : Str} {u : Value} {d : PyData} {pos : Pos} {v : V} (hm : X.mg x = some u) (r : RelV v u) (hd : ∀ F : Hp, DR X.K F v d) (hg : Gl X x := by rfl) (hdb : (x == ("__debug__" : Str)) = false := by decide) : PE X (.Name x pos) (liftE X.K Z (dC d)) :=
  PE.of (pe_glob hg hm r hdb) fun _ _ _ h => lift_c hd h
abbrev D2 := PyData → PyData → (PyData → Prop) → Prop
abbrev dOp (f : D2) (wa wb : DE) (env : List SD) (P : PyData → List SD → Prop) : Prop := wa env fun x env1 => wb env1 fun y env2 => f x y fun z => P z env2
def OpD (K : PySem.W.Frag) (r : R2) (f : D2) : Prop :=
  ∀ (T : List (Addr × Str)) (Z : Zx T) (g : Gx Z) (F : Hp) (env : List SD) (σ : L2.St) (H : Hp) (vx vy : V) (dx dy : PyData) (P : PyData → Prop) (Q : VK), Ok K g F env σ H → DR K F vx dx → DR K F vy dy → f dx dy P →
    (∀ d v F' H', P d → Ex F F' → Ok K g F' env σ H' → DR K F' v d → Q v H') → r vx vy H Q
theorem lift_op {r : R2} {f : D2} (hd : OpD K r f) {σ : L2.St} {H : Hp} {Q : VK} (h : liftE K Z (dOp f wa wb) σ H Q) : tOp r (liftE K Z wa) (liftE K Z wb) σ H Q := by
  obtain ⟨g, F, env, P, k, w, q⟩ := h
  refine ⟨g, F, env, _, k, w, fun d env1 v F1 H1 p e1 k1 r1 => ⟨g, F1, env1, _, k1, p, fun d2 env2 v2 F2 H2 p2 e2 k2 r2 => ?_⟩⟩
  exact hd _ _ g F2 env2 σ H2 v v2 d d2 _ Q k2 (r1.mono e2) r2 p2 fun d3 v3 F3 H3 p3 e3 k3 r3 => q d3 env2 v3 F3 H3 p3 (e1.trans (e2.trans e3)) k3 r3
theorem dop {op : Operator} {r : R2} {f : D2} (ho : OpR X (binaryOp op) r) (hd : OpD X.K r f) (ha : PE X a (liftE X.K Z wa)) (hb : PE X b (liftE X.K Z wb)) : PE X (.BinOp a op b pos) (liftE X.K Z (dOp f wa wb)) :=
  PE.of (pe_op ho ha hb) fun _ _ _ h => lift_op hd h
theorem dcmp {op : CmpOp} {r : R2} {f : D2} (ho : OpR X (compareOp op) r) (hd : OpD X.K r f) (ha : PE X a (liftE X.K Z wa)) (hb : PE X b (liftE X.K Z wb)) (hm : behindInMarks op b = false) : PE X (.Compare a [op] [b] pos) (liftE X.K Z (dOp f wa wb)) :=
  PE.of (pe_cmpR ho ha hb hm) fun _ _ _ h => lift_op hd h
abbrev dTest (w : DE) (env : List SD) (P : Bool → List SD → Prop) : Prop := w env fun d env' => bT d fun b => P b env'
theorem lift_test {t : TE} (ht : ∀ σ H Q, liftE K Z w σ H Q → t σ H Q) {σ : L2.St} {H : Hp} {Q : Bool → Hp → Prop} (h : liftT K Z (dTest w) σ H Q) : tTest t σ H Q := by
  obtain ⟨g, F, env, P, k, w, q⟩ := h
  refine ht _ _ _ ⟨g, F, env, _, k, w, fun d env1 v F1 H1 p e1 k1 r1 => ?_⟩
  obtain ⟨b, rfl, p⟩ := bT_inv p
  cases r1.inv_bool
  exact ⟨_, rfl, q _ env1 F1 H1 p e1 k1⟩
theorem dcmpT {op : CmpOp} {r : R2} {f : D2} (ho : OpR X (compareOp op) r) (hd : OpD X.K r f) (ha : PE X a (liftE X.K Z wa)) (hb : PE X b (liftE X.K Z wb)) (hm : behindInMarks op b = false) : PT X (.Compare a [op] [b] pos) (liftT X.K Z (dTest (dOp f wa wb))) :=
  PT.of (pt_cmpR ho ha hb hm) fun _ _ _ h => lift_test (fun _ _ _ h => lift_op hd h) h
/-- any other expression as a test -/
theorem dtest (h : PE X e (liftE X.K Z w)) (he : ∀ whole, isTrue e X.env whole = (do let v ← whole; standAt e.pos; holding [v] (truthy v)) := by intro _; rfl) : PT X e (liftT X.K Z (dTest w)) :=
  PT.of (pt_val h he) fun _ _ _ q => lift_test (fun _ _ _ h => h) q
/-- a < b < c -/
abbrev dChain (f f' : D2) (wa wb wc : DE) (env : List SD) (P : PyData → List SD → Prop) : Prop := wa env fun x env1 => wb env1 fun y env2 => f x y fun z => bT z fun b => bIf b (wc env2 fun u env3 => f' y u fun z2 => P z2 env3) (P (.bool false) env2)
theorem lift_chain {r r' : R2} {f f' : D2} (hd : OpD K r f) (hd' : OpD K r' f') {σ : L2.St} {H : Hp} {Q : VK} (h : liftE K Z (dChain f f' wa wb wc) σ H Q) : tChain r r' (liftE K Z wa) (liftE K Z wb) (liftE K Z wc) σ H Q := by
  obtain ⟨g, F, env, P, k, w, q⟩ := h
  refine ⟨g, F, env, _, k, w, fun d env1 v F1 H1 p e1 k1 r1 => ⟨g, F1, env1, _, k1, p, fun d2 env2 v2 F2 H2 p2 e2 k2 r2 => ?_⟩⟩
  refine hd _ _ g F2 env2 σ H2 v v2 d d2 _ _ k2 (r1.mono e2) r2 p2 fun d3 v3 F3 H3 p3 e3 k3 r3 => ?_
  obtain ⟨b, rfl, p3⟩ := bT_inv p3
  cases r3.inv_bool
  cases b with
  | true =>
    refine ⟨true, rfl, iteT ⟨g, F3, env2, _, k3, p3, fun d4 env4 v4 F4 H4 p4 e4 k4 r4 => ?_⟩⟩
    exact hd' _ _ g F4 env4 σ H4 v2 v4 d2 d4 _ Q k4 ((r2.mono e3).mono e4) r4 p4 fun d5 v5 F5 H5 p5 e5 k5 r5 => q d5 env4 v5 F5 H5 p5 (e1.trans (e2.trans (e3.trans (e4.trans e5)))) k5 r5
  | false =>
    exact ⟨false, rfl, iteF (q _ env2 _ F3 H3 p3 (e1.trans (e2.trans e3)) k3 (.bl false))⟩
theorem dchain {op op' : CmpOp} {r r' : R2} {f f' : D2} (ho : OpR X (compareOp op) r) (ho' : OpR X (compareOp op') r') (hd : OpD X.K r f) (hd' : OpD X.K r' f') (ha : PE X a (liftE X.K Z wa)) (hb : PE X b (liftE X.K Z wb)) (hc : PE X c (liftE X.K Z wc))
    (hm : lastMarks [op, op'] [b, c] = false := by with_unfolding_all rfl) : PE X (.Compare a [op, op'] [b, c] pos) (liftE X.K Z (dChain f f' wa wb wc)) :=
  PE.of (pe_chain ho ho' ha hb hc hm) fun _ _ _ h => lift_chain hd hd' h
theorem dchainT {op op' : CmpOp} {r r' : R2} {f f' : D2} (ho : OpR X (compareOp op) r) (ho' : OpR X (compareOp op') r') (hd : OpD X.K r f) (hd' : OpD X.K r' f') (ha : PE X a (liftE X.K Z wa)) (hb : PE X b (liftE X.K Z wb)) (hc : PE X c (liftE X.K Z wc))
    (hm : lastMarks [op, op'] [b, c] = false := by with_unfolding_all rfl) : PT X (.Compare a [op, op'] [b, c] pos) (liftT X.K Z (dTest (dChain f f' wa wb wc))) :=
  PT.of (pt_chain ho ho' ha hb hc hm) fun _ _ _ h => lift_test (fun _ _ _ h => lift_chain hd hd' h) h
/-- one place -/
abbrev D1 := PyData → (PyData → Prop) → Prop
abbrev dUn (f : D1) (wa : DE) (env : List SD) (P : PyData → List SD → Prop) : Prop := wa env fun x env1 => f x fun z => P z env1
def UnD (K : PySem.W.Frag) (r : V → Hp → VK → Prop) (f : D1) : Prop :=
  ∀ (T : List (Addr × Str)) (Z : Zx T) (g : Gx Z) (F : Hp) (env : List SD) (σ : L2.St) (H : Hp) (vx : V) (dx : PyData) (P : PyData → Prop) (Q : VK), Ok K g F env σ H → DR K F vx dx → f dx P →
    (∀ d v F' H', P d → Ex F F' → Ok K g F' env σ H' → DR K F' v d → Q v H') → r vx H Q
theorem dun {op : UnaryOp} {r : V → Hp → VK → Prop} {f : D1} (ho : UnR X (unaryOp op) r) (hd : UnD X.K r f) (ha : PE X a (liftE X.K Z wa)) : PE X (.UnaryOp op a pos) (liftE X.K Z (dUn f wa)) :=
  PE.of (pe_un ho ha) fun σ H Q h => by
    obtain ⟨g, F, env, P, k, w, q⟩ := h
    refine ⟨g, F, env, _, k, w, fun d env1 v F1 H1 p e1 k1 r1 => ?_⟩
    exact hd _ _ g F1 env1 σ H1 v d _ Q k1 r1 p fun d3 v3 F3 H3 p3 e3 k3 r3 => q d3 env1 v3 F3 H3 p3 (e1.trans e3) k3 r3
abbrev dAndV (wa wb : DE) (env : List SD) (P : PyData → List SD → Prop) : Prop := wa env fun x env1 => bT x fun b => bIf b (wb env1 P) (P (.bool false) env1)
abbrev dOrV (wa wb : DE) (env : List SD) (P : PyData → List SD → Prop) : Prop := wa env fun x env1 => bT x fun b => bIf b (P (.bool true) env1) (wb env1 P)
abbrev dNotV (wa : DE) (env : List SD) (P : PyData → List SD → Prop) : Prop := wa env fun x env1 => bT x fun b => P (.bool (!b)) env1
variable {rest : List Expr}
theorem done {op : BoolOp} (h : PE X a (liftE X.K Z wa)) : PE X (.BoolOp op [a] pos) (liftE X.K Z wa) := pe_one h
theorem dandV (ha : PE X a (liftE X.K Z wa)) (hb : PE X (.BoolOp .And (b :: rest) pos) (liftE X.K Z wb)) : PE X (.BoolOp .And (a :: b :: rest) pos) (liftE X.K Z (dAndV wa wb)) :=
  PE.of (pe_and ha hb) fun σ H Q h => by
    obtain ⟨g, F, env, P, k, w, q⟩ := h
    refine ⟨g, F, env, _, k, w, fun d env1 v F1 H1 p e1 k1 r1 => ?_⟩
    obtain ⟨b, rfl, p⟩ := bT_inv p
    cases r1.inv_bool
    cases b with
    | true => exact ⟨true, rfl, iteT ⟨g, F1, env1, _, k1, p, fun d2 env2 v2 F2 H2 p2 e2 k2 r2 => q d2 env2 v2 F2 H2 p2 (e1.trans e2) k2 r2⟩⟩
    | false => exact ⟨false, rfl, iteF (q _ env1 _ F1 H1 p e1 k1 (.bl false))⟩
theorem dorV (ha : PE X a (liftE X.K Z wa)) (hb : PE X (.BoolOp .Or (b :: rest) pos) (liftE X.K Z wb)) : PE X (.BoolOp .Or (a :: b :: rest) pos) (liftE X.K Z (dOrV wa wb)) :=
  PE.of (pe_or ha hb) fun σ H Q h => by
    obtain ⟨g, F, env, P, k, w, q⟩ := h
    refine ⟨g, F, env, _, k, w, fun d env1 v F1 H1 p e1 k1 r1 => ?_⟩
    obtain ⟨b, rfl, p⟩ := bT_inv p
    cases r1.inv_bool
    cases b with
    | true => exact ⟨true, rfl, iteT (q _ env1 _ F1 H1 p e1 k1 (.bl true))⟩
    | false => exact ⟨false, rfl, iteF ⟨g, F1, env1, _, k1, p, fun d2 env2 v2 F2 H2 p2 e2 k2 r2 => q d2 env2 v2 F2 H2 p2 (e1.trans e2) k2 r2⟩⟩
theorem dnotV (ha : PE X a (liftE X.K Z wa)) : PE X (.UnaryOp .Not a pos) (liftE X.K Z (dNotV wa)) :=
  PE.of (pe_not ha) fun σ H Q h => by
    obtain ⟨g, F, env, P, k, w, q⟩ := h
    refine ⟨g, F, env, _, k, w, fun d env1 v F1 H1 p e1 k1 r1 => ?_⟩
    obtain ⟨b, rfl, p⟩ := bT_inv p
    cases r1.inv_bool
    exact ⟨_, rfl, q _ env1 _ F1 H1 p e1 k1 (.bl _)⟩
abbrev dAnd (t u : DT) (env : List SD) (P : Bool → List SD → Prop) : Prop := t env fun b env1 => bIf b (u env1 P) (P false env1)
abbrev dOr (t u : DT) (env : List SD) (P : Bool → List SD → Prop) : Prop := t env fun b env1 => bIf b (P true env1) (u env1 P)
abbrev dNot (t : DT) (env : List SD) (P : Bool → List SD → Prop) : Prop := t env fun b env1 => P (!b) env1
variable {t u : DT}
theorem tand1 (ha : PT X a (liftT X.K Z t)) : PW X (.BoolOp .And [a] pos) (liftT X.K Z t) := pw_and1 ha
theorem tor1 (ha : PT X a (liftT X.K Z t)) : PW X (.BoolOp .Or [a] pos) (liftT X.K Z t) := pw_or1 ha
theorem tand (ha : PT X a (liftT X.K Z t)) (hb : PW X (.BoolOp .And (b :: rest) pos) (liftT X.K Z u)) : PW X (.BoolOp .And (a :: b :: rest) pos) (liftT X.K Z (dAnd t u)) :=
  PW.of (pw_and ha hb) fun σ H Q h => by
    obtain ⟨g, F, env, P, k, w, q⟩ := h
    refine ⟨g, F, env, _, k, w, fun d env1 F1 H1 p e1 k1 => ?_⟩
    cases d with
    | true => exact iteT ⟨g, F1, env1, _, k1, p, fun d2 env2 F2 H2 p2 e2 k2 => q d2 env2 F2 H2 p2 (e1.trans e2) k2⟩
    | false => exact iteF (q _ env1 F1 H1 p e1 k1)
theorem tor (ha : PT X a (liftT X.K Z t)) (hb : PW X (.BoolOp .Or (b :: rest) pos) (liftT X.K Z u)) : PW X (.BoolOp .Or (a :: b :: rest) pos) (liftT X.K Z (dOr t u)) :=
  PW.of (pw_or ha hb) fun σ H Q h => by
    obtain ⟨g, F, env, P, k, w, q⟩ := h
    refine ⟨g, F, env, _, k, w, fun d env1 F1 H1 p e1 k1 => ?_⟩
    cases d with
    | false => exact iteF ⟨g, F1, env1, _, k1, p, fun d2 env2 F2 H2 p2 e2 k2 => q d2 env2 F2 H2 p2 (e1.trans e2) k2⟩
    | true => exact iteT (q _ env1 F1 H1 p e1 k1)
theorem tnot (ha : PT X a (liftT X.K Z t)) : PT X (.UnaryOp .Not a pos) (liftT X.K Z (dNot t)) :=
  PT.of (pt_not ha) fun σ H Q h => by
    obtain ⟨g, F, env, P, k, w, q⟩ := h
    exact ⟨g, F, env, _, k, w, fun d env1 F1 H1 p e1 k1 => q _ env1 F1 H1 p e1 k1⟩
variable {was : DA}
abbrev dNil (env : List SD) (P : List PyData → List SD → Prop) : Prop := P [] env
abbrev dCons (wa : DE) (wr : DA) (env : List SD) (P : List PyData → List SD → Prop) : Prop := wa env fun x env1 => wr env1 fun xs env2 => P (x :: xs) env2
theorem anil : PA X [] (liftA X.K Z dNil) := PA.of pa_nil fun σ H Q h => by
  obtain ⟨g, F, env, P, k, w, q⟩ := h
  exact q [] env [] F H w (Ex.refl F) k .nil
theorem acons (ha : PE X e (liftE X.K Z wa)) (hr : PA X es (liftA X.K Z was)) (hs : starEach (e :: es) X.env = (false, eval e X.env) :: starEach es X.env := by rfl) : PA X (e :: es) (liftA X.K Z (dCons wa was)) :=
  PA.of (pa_cons ha hr hs) fun σ H Q h => by
    obtain ⟨g, F, env, P, k, w, q⟩ := h
    exact ⟨g, F, env, _, k, w, fun d env1 v F1 H1 p e1 k1 r1 => ⟨g, F1, env1, _, k1, p, fun ds env2 vs F2 H2 p2 e2 k2 r2 => q (d :: ds) env2 (v :: vs) F2 H2 p2 (e1.trans e2) k2 (.cons (r1.mono e2) r2)⟩⟩
abbrev dTup (wa : DA) (env : List SD) (P : PyData → List SD → Prop) : Prop := wa env fun xs env' => bIf (Nat.ble xs.length 100000) (P (.tuple xs) env') False
abbrev dLst (wa : DA) (env : List SD) (P : SD → List SD → Prop) : Prop := wa env fun xs env' => bIf (Nat.ble xs.length 100000) (P (.cel false xs) env') False
theorem dtup {k : _} (h : PA X es (liftA X.K Z was)) : PE X (.Tuple es k pos) (liftE X.K Z (dTup was)) :=
  PE.of (pe_tupZ h) fun σ H Q h => by
    obtain ⟨g, F, env, P, k, w, q⟩ := h
    refine ⟨g, F, env, _, k, w, fun ds env1 vs F1 H1 p e1 k1 r1 => ⟨by rw [r1.length]; exact Evl.sz_of (Nat.le_of_ble_eq_true (bIf_and p).1), fun x o hx ho => ?_⟩⟩
    obtain ⟨e2, k2, r2⟩ := k1.newTup hx ho r1
    exact q _ env1 _ _ _ (bIf_and p).2 (e1.trans e2) k2 r2
theorem dlst (h : PA X es (liftA X.K Z was)) : PE X (.List es pos) (liftX X.K Z (dLst was)) :=
  PE.of (pe_lst h) fun σ H Q h => by
    obtain ⟨g, F, env, P, k, w, q⟩ := h
    refine ⟨g, F, env, _, k, w, fun ds env1 vs F1 H1 p e1 k1 r1 => ⟨by rw [r1.length]; exact Evl.sz_of (Nat.le_of_ble_eq_true (bIf_and p).1), fun x hx => ?_⟩⟩
    obtain ⟨k2, r2⟩ := k1.newCell hx r1
    exact q _ env1 _ _ _ (bIf_and p).2 e1 k2 r2
/-- a new list that is to stay as it is -/
abbrev dFrz (w : DX) (env : List SD) (P : PyData → List SD → Prop) : Prop := w env fun r env' => match r with
  | .dat d => P d env'
  | .cel _ xs => P (.list xs) env'
  | _ => False
theorem dfrz {w : DX} (h : PE X e (liftX X.K Z w)) : PE X e (liftE X.K Z (dFrz w)) := PE.of h fun σ H Q h => by
  obtain ⟨g, F, env, P, k, w, q⟩ := h
  refine ⟨g, F, env, _, k, w, fun r env1 v F1 H1 p e1 k1 r1 => ?_⟩
  cases r with
  | un => exact p.elim
  | dic _ => exact p.elim
  | dat d => exact q d env1 v F1 H1 p e1 k1 r1
  | cel b xs =>
    obtain ⟨F2, e2, k2, r2⟩ := k1.freezeP r1
    exact q _ env1 v F2 H1 p (e1.trans e2) k2 r2
abbrev dX (w : DE) (env : List SD) (P : SD → List SD → Prop) : Prop := w env fun d env' => P (.dat d) env'
theorem dx {w : DE} (h : PE X e (liftE X.K Z w)) : PE X e (liftX X.K Z (dX w)) := PE.of h fun σ H Q h => by
  obtain ⟨g, F, env, P, k, w, q⟩ := h
  exact ⟨g, F, env, _, k, w, fun d env1 v F1 H1 p e1 k1 r1 => q (.dat d) env1 v F1 H1 p e1 k1 r1⟩
theorem dix {r : R2} {f : D2} (ho : IxR X r) (hd : OpD X.K r f) (ha : PE X a (liftE X.K Z wa)) (hb : PE X b (liftE X.K Z wb)) (hs : PlainIx b := by intro _ _; rfl) : PE X (.Subscript a b pos) (liftE X.K Z (dOp f wa wb)) :=
  PE.of (pe_ix ho ha hb hs) fun _ _ _ h => lift_op hd h
theorem ixr_or {r r' : R2} (h : IxR X r) (h' : IxR X r') : IxR X (fun x y H Q => r x y H Q ∨ r' x y H Q) := by
  intro value slice pins s σ H x y v u Q I rx ry q hs
  rcases q with q | q
  · exact h value slice pins s σ H x y v u Q I rx ry q hs
  · exact h' value slice pins s σ H x y v u Q I rx ry q hs
/-- the item at a place -/
@[irreducible] def pick (xs : List PyData) (k : Int) (P : PyData → Prop) : Prop := match atI xs k with
  | some d => P d
  | none => False
theorem pick_inv {xs : List PyData} {k : Int} {P : PyData → Prop} (h : pick xs k P) : ∃ d, atI xs k = some d ∧ P d := by
  unfold pick at h
  cases e : atI xs k with
  | none => rw [e] at h; exact h.elim
  | some d => rw [e] at h; exact ⟨d, rfl, h⟩
def ixQ (xs : List PyData) (y : PyData) (K : PyData → Prop) : Prop := match y with
  | .int k => pick xs k K
  | _ => False
/-- the sign at a place of a text -/
@[irreducible] def pickS (z : Str) (k : Int) (P : PyData → Prop) : Prop := match atI z.cps.toList k with
  | some c => z.length ≤ 100000 ∧ P (.str ⟨#[c]⟩)
  | none => False
theorem pickS_inv {z : Str} {k : Int} {P : PyData → Prop} (h : pickS z k P) : ∃ c, atI z.cps.toList k = some c ∧ z.length ≤ 100000 ∧ P (.str ⟨#[c]⟩) := by
  unfold pickS at h
  cases e : atI z.cps.toList k with
  | none => rw [e] at h; exact h.elim
  | some c => rw [e] at h; exact ⟨c, rfl, h⟩
def oIx (x y : PyData) (P : PyData → Prop) : Prop := match x, y with
  | .tuple xs, .int k => pick xs k P
  | .list xs, .int k => pick xs k P
  | .str z, .int k => pickS z k P
  | _, _ => False
theorem atI_rel {F : Hp} {vs : List V} {ds : List PyData} {k : Int} {d : PyData} (r : DRs K F vs ds) (h : atI ds k = some d) : ∃ v, atI vs k = some v ∧ DR K F v d := by
  unfold atI at h ⊢
  rw [r.length]
  cases e : ixN ds.length k with
  | none => rw [e] at h; cases h
  | some j =>
    rw [e] at h
    exact r.get h
def rIx (K : PySem.W.Frag) : R2 := fun x y H Q => rIxT K x y H Q ∨ (rIxL K x y H Q ∨ rIxS x y H Q)
theorem ixr : IxR X (rIx X.K) := ixr_or ix_tup (ixr_or ix_list ix_str)
theorem opd_ix : OpD K (rIx K) oIx := by
  intro _ _ g F env σ H vx vy dx dy P Q k rx ry p q
  unfold oIx at p
  split at p
  · rename_i xs i
    cases ry.inv_int
    obtain ⟨d, e, p⟩ := pick_inv p
    obtain ⟨a, us, rfl, h1, h2⟩ := rx.inv_tup
    obtain ⟨v, e1, e2⟩ := atI_rel h2 e
    exact .inl ⟨a, us, i, v, rfl, rfl, Evl.ex_t k.fh h1, e1, q d v F H p (Ex.refl F) k e2⟩
  · rename_i xs i
    cases ry.inv_int
    obtain ⟨d, e, p⟩ := pick_inv p
    obtain ⟨a, us, rfl, h1, h2⟩ := rx.inv_lst
    obtain ⟨v, e1, e2⟩ := atI_rel h2 e
    exact .inr (.inl ⟨a, us, i, v, rfl, rfl, (h1.mono k.fh).sq, e1, q d v F H p (Ex.refl F) k e2⟩)
  · rename_i z i
    cases ry.inv_int
    cases rx.inv_str
    obtain ⟨c, e, hz, p⟩ := pickS_inv p
    exact .inr (.inr ⟨z, i, c, rfl, rfl, by rw [sizeLine_eq]; omega, e, q _ _ F H p (Ex.refl F) k (.str _)⟩)
  · exact p.elim
theorem dixP (ha : PE X a (liftE X.K Z wa)) (hb : PE X b (liftE X.K Z wb)) (hs : PlainIx b := by intro _ _; rfl) : PE X (.Subscript a b pos) (liftE X.K Z (dOp oIx wa wb)) := dix ixr opd_ix ha hb hs
/-- an item of a name's own cell -/
abbrev dIxC (i : Nat) (wb : DE) (env : List SD) (P : PyData → List SD → Prop) : Prop := match env[i]? with
  | some (.cel _ _) => wb env fun y env1 => match env1[i]? with
    | some (.cel _ xs) => ixQ xs y fun d => P d env1
    | _ => False
  | _ => False
theorem dixC (i : Nat) {x : Str} {p0 : Pos} (hb : PE X b (liftE X.K Z wb)) (hN : X.N[i]? = some x := by rfl) (hv : Vis X.env.scope x := by first | exact Or.inl rfl | exact Or.inr (Or.inl rfl) | exact Or.inr (Or.inr rfl)) (hd : (x == ("__debug__" : Str)) = false := by decide)
    (hcd : (x == ("__classdict__" : Str)) = false := by decide) (hs : PlainIx b := by intro _ _; rfl) : PE X (.Subscript (.Name x p0) b pos) (liftE X.K Z (dIxC i wb)) :=
  PE.of (pe_ix ix_list (pe_var hN hv hd hcd) hb hs) fun σ H Q h => by
    obtain ⟨g, F, env, P, k, w, q⟩ := h
    unfold dIxC at w
    split at w
    · rename_i p xs e
      obtain ⟨a0, vs, h1, _⟩ := k.cel i p xs e
      refine ⟨_, h1, g, F, env, _, k, w, fun d env1 v F1 H1 p1 e1 k1 r1 => ?_⟩
      split at p1
      · rename_i p' ys e'
        obtain ⟨n, rfl, p1⟩ : ∃ n, d = .int n ∧ pick ys n _ := by
          cases d <;> first | exact ⟨_, rfl, p1⟩ | exact p1.elim
        cases r1.inv_int
        obtain ⟨d', ed, p1⟩ := pick_inv p1
        obtain ⟨a1, ws, z1, z2, z3, z4, z5⟩ := k1.cel i _ _ e'
        rw [h1] at z1
        cases z1
        obtain ⟨u, u1, u2⟩ := atI_rel z4 ed
        exact ⟨a0, ws, n, u, rfl, rfl, SqL.of z3, u1, q d' env1 u F1 H1 p1 e1 k1 u2⟩
      · exact p1.elim
    · exact w.elim
end
end DL

namespace DL
variable {T : List (PySem.Addr × PySem.Str)} {Z : Zx T}
open PySem PySem.Spec PyProof.Rows L2
open Evl (Ex)

/-- a whole number of at most thousand figures -/
def Sz (i : Int) : Prop := i.natAbs < 10 ^ 1000
theorem Sz.log {i : Int} (h : Sz i) : i.natAbs.log2 < 3322 := by
  have h1 : i.natAbs < 2 ^ 3322 := Nat.lt_trans h (by decide +kernel)
  exact PySem.Flt.log2_lt_of (by decide) h1
theorem Sz.bits {i : Int} (h : Sz i) : Builtin.Int.intBits i ≤ 3322 := by
  have h1 := h.log
  unfold Builtin.Int.intBits
  split <;> omega
theorem sz_of {i : Int} (h1 : -(10 ^ 100) ≤ i) (h2 : i ≤ 10 ^ 100) : Sz i := by
  unfold Sz
  have : i.natAbs ≤ 10 ^ 100 := by omega
  exact Nat.lt_of_le_of_lt this (by decide +kernel)
theorem sz_lt {i : Int} (h : i.natAbs < 10 ^ 250) : Sz i := Nat.lt_trans h (by decide +kernel)
section
variable {X : Cx} {K : PySem.W.Frag}
def oI (g : Int → Int → PyData) (x y : PyData) (P : PyData → Prop) : Prop := match x, y with
  | .int i, .int j => P (g i j)
  | _, _ => False
theorem opd_I0 {gv : Int → Int → V} {gd : Int → Int → PyData} (hg : ∀ (F : Hp) i j, DR K F (gv i j) (gd i j)) : OpD K (rI0 gv) (oI gd) := by
  intro _ _ g F env σ H vx vy dx dy P Q k rx ry p q
  unfold oI at p
  split at p
  · cases rx.inv_int
    cases ry.inv_int
    exact ⟨_, _, rfl, rfl, q _ _ F H p (Ex.refl F) k (hg F _ _)⟩
  · exact p.elim
def oIc (C : Int → Int → Prop) (g : Int → Int → PyData) (x y : PyData) (P : PyData → Prop) : Prop := match x, y with
  | .int i, .int j => C i j ∧ P (g i j)
  | _, _ => False
theorem opd_I {C C' : Int → Int → Prop} {gv : Int → Int → V} {gd : Int → Int → PyData} (hc : ∀ i j, C i j → C' i j) (hg : ∀ (F : Hp) i j, DR K F (gv i j) (gd i j)) : OpD K (rI C' gv) (oIc C gd) := by
  intro _ _ g F env σ H vx vy dx dy P Q k rx ry p q
  unfold oIc at p
  split at p
  · cases rx.inv_int
    cases ry.inv_int
    exact ⟨_, _, rfl, rfl, hc _ _ p.1, q _ _ F H p.2 (Ex.refl F) k (hg F _ _)⟩
  · exact p.elim
abbrev oSub : D2 := oI fun i j => .int (i - j)
/-- the one text ahead of the other -/
@[irreducible] def strLt (a b : Str) : Bool := decide (a.cps.toList < b.cps.toList)
def oLt (x y : PyData) (P : PyData → Prop) : Prop := match x, y with
  | .int i, .int j => P (.bool (decide (i < j)))
  | .str a, .str b => P (.bool (strLt a b))
  | _, _ => False
def rLtA : R2 := fun x y H Q => (rI0 fun i j => .bl (decide (i < j))) x y H Q ∨ ∃ i j, x = .str i ∧ y = .str j ∧ Q (.bl (decide (i.cps.toList < j.cps.toList))) H
theorem op_ltA {X : Cx} : OpR X (compareOp .Lt) rLtA := OpR.or op_lt op_lt_str
abbrev oLe : D2 := oI fun i j => .bool (decide (i ≤ j))
abbrev oGt : D2 := oI fun i j => .bool (decide (j < i))
abbrev oGe : D2 := oI fun i j => .bool (decide (j ≤ i))
abbrev oMod : D2 := oIc (fun _ j => 0 < j) fun i j => .int (i % j)
abbrev oDiv : D2 := oIc (fun _ j => 0 < j ∧ Sz j) fun i j => .int (i / j)
abbrev oMulI : D2 := oIc (fun i j => Sz i ∧ Sz j) fun i j => .int (i * j)
abbrev oPow : D2 := oIc (fun i j => Sz i ∧ 0 ≤ j ∧ j ≤ 10000) fun i j => .int (i ^ j.toNat)
variable {a b c e : Expr} {es : List Expr} {pos : Pos} {wa wb wc w : DE}
theorem op_powW : OpR X (binaryOp .Pow) (rI (fun i j => Sz i ∧ 0 ≤ j ∧ j ≤ 10000) fun i j => .int (i ^ j.toNat)) := by
  intro pins s σ H x y v u Q I rx ry h
  obtain ⟨i, j, rfl, rfl, ⟨h1, h2, h3⟩, q⟩ := h
  obtain ⟨t, rfl⟩ := rx
  obtain ⟨t', rfl⟩ := ry
  refine PyProof.Rows.pow_int h2 ?_ ⟨.int _, H, I.tok _, ⟨_, rfl⟩, q⟩
  have b := h1.bits
  have z : (Builtin.Int.intBits i : Int) * j ≤ 3322 * 10000 := Int.mul_le_mul (by omega) h3 h2 (by decide)
  exact Int.le_trans z (by decide)
theorem dsub (ha : PE X a (liftE X.K Z wa)) (hb : PE X b (liftE X.K Z wb)) : PE X (.BinOp a .Sub b pos) (liftE X.K Z (dOp oSub wa wb)) := dop op_sub (opd_I0 fun _ _ _ => .int _) ha hb
theorem dmod (ha : PE X a (liftE X.K Z wa)) (hb : PE X b (liftE X.K Z wb)) : PE X (.BinOp a .Mod b pos) (liftE X.K Z (dOp oMod wa wb)) := dop op_mod (opd_I (fun _ _ h => h) fun _ _ _ => .int _) ha hb
theorem ddiv (ha : PE X a (liftE X.K Z wa)) (hb : PE X b (liftE X.K Z wb)) : PE X (.BinOp a .FloorDiv b pos) (liftE X.K Z (dOp oDiv wa wb)) :=
  dop op_fdivW (opd_I (fun _ _ h => ⟨h.1, Nat.lt_trans h.2.log (by decide)⟩) fun _ _ _ => .int _) ha hb
theorem dpow (ha : PE X a (liftE X.K Z wa)) (hb : PE X b (liftE X.K Z wb)) : PE X (.BinOp a .Pow b pos) (liftE X.K Z (dOp oPow wa wb)) := dop op_powW (opd_I (fun _ _ h => h) fun _ _ _ => .int _) ha hb
theorem opr_ltA : OpD K rLtA oLt := by
  intro _ _ g F env σ H vx vy dx dy P Q k rx ry p q
  unfold oLt at p
  split at p
  · cases rx.inv_int
    cases ry.inv_int
    exact .inl ⟨_, _, rfl, rfl, q _ _ F H p (Ex.refl F) k (.bl _)⟩
  · cases rx.inv_str
    cases ry.inv_str
    unfold strLt at p
    exact .inr ⟨_, _, rfl, rfl, q _ _ F H p (Ex.refl F) k (.bl _)⟩
  · exact p.elim
theorem opr_le : OpD K (rI0 fun i j => V.bl (decide (i ≤ j))) oLe := opd_I0 fun _ _ _ => .bl _
theorem opr_gt : OpD K (rI0 fun i j => V.bl (decide (j < i))) oGt := opd_I0 fun _ _ _ => .bl _
theorem opr_ge : OpD K (rI0 fun i j => V.bl (decide (j ≤ i))) oGe := opd_I0 fun _ _ _ => .bl _
def oNeg (x : PyData) (P : PyData → Prop) : Prop := match x with
  | .int i => P (.int (-i))
  | _ => False
theorem dneg (ha : PE X a (liftE X.K Z wa)) : PE X (.UnaryOp .USub a pos) (liftE X.K Z (dUn oNeg wa)) := dun un_neg (by
  intro _ _ g F env σ H vx dx P Q k rx p q
  unfold oNeg at p
  split at p
  · cases rx.inv_int
    exact ⟨_, rfl, q _ _ F H p (Ex.refl F) k (.int _)⟩
  · exact p.elim) ha
def oAdd (x y : PyData) (P : PyData → Prop) : Prop := match x, y with
  | .int i, .int j => P (.int (i + j))
  | .tuple xs, .tuple ys => xs.length + ys.length ≤ 100000 ∧ P (.tuple (xs ++ ys))
  | .list xs, .list ys => xs.length + ys.length ≤ 100000 ∧ P (.list (xs ++ ys))
  | .str i, .str j => i.length + j.length ≤ 100000 ∧ P (.str (i ++ j))
  | _, _ => False
theorem sz2 {n : Nat} (h : n ≤ 100000) : n ≤ sizeLine := Evl.sz_of h
/-- two lists that stand, known to the object or not -/
def rCatL (K : PySem.W.Frag) : R2 := fun x y H Q => ∃ l b xs zs, x = .ref l ∧ y = .ref b ∧ RdL K H l xs ∧ RdL K H b zs ∧ xs.length + zs.length ≤ sizeLine ∧ ∀ p, H p = none → Q (.ref p) (upd H p (.lst (xs ++ zs)))
theorem op_catL : OpR X (binaryOp .Add) (rCatL X.K) := by
  intro pins s σ H x y v u Q I rx ry h
  obtain ⟨l, b, xs, zs, rfl, rfl, hl, hb, hz, q⟩ := h
  cases rx
  cases ry
  obtain ⟨z1, its, n, r1, e1⟩ := hl.obj I
  obtain ⟨z2, its2, n2, r2, e2⟩ := hb.obj I
  have l1 := r1.length
  have l2 := r2.length
  refine PySem.P.add_list e1 e2 ?_ (by rw [List.size_toArray, List.size_toArray]; omega)
  rw [show its.toArray ++ its2.toArray = (its ++ its2).toArray by simp]
  exact ⟨.ref _, _, I.lnew (t' := s.toks) (r1.append r2) (by rw [List.length_append]; omega), rfl, q _ I.fresh⟩
def rAddD (K : PySem.W.Frag) : R2 := fun x y H Q => ((rI0 fun i j => .int (i + j)) x y H Q ∨ rCatZ K x y H Q) ∨ (rCatL K x y H Q ∨ (∃ i j, x = .str i ∧ y = .str j ∧ i.length + j.length ≤ sizeLine ∧ Q (.str (i ++ j)) H))
theorem op_addD : OpR X (binaryOp .Add) (rAddD X.K) := OpR.or (OpR.or op_add op_catZ) (OpR.or op_catL op_add_str)
theorem opd_add : OpD K (rAddD K) oAdd := by
  intro _ _ g F env σ H vx vy dx dy P Q k rx ry p q
  unfold oAdd at p
  split at p
  · cases rx.inv_int
    cases ry.inv_int
    exact .inl (.inl ⟨_, _, rfl, rfl, q _ _ F H p (Ex.refl F) k (.int _)⟩)
  · rename_i xs ys
    obtain ⟨a, us, rfl, h1, h2⟩ := rx.inv_tup
    obtain ⟨b, ws, rfl, h3, h4⟩ := ry.inv_tup
    have l1 := h2.length
    have l2 := h4.length
    refine .inl (.inr ⟨a, b, us, ws, rfl, rfl, Evl.ex_t k.fh h1, Evl.ex_t k.fh h3, by rw [l1, l2]; exact sz2 p.1, fun e => ?_, fun _ e => ?_, fun _ _ x o hx ho => ?_⟩)
    · subst e
      have : xs = [] := by cases h2; rfl
      subst this
      exact q _ _ F H p.2 (Ex.refl F) k ry
    · subst e
      have : ys = [] := by cases h4; rfl
      subst this
      rw [List.append_nil] at p
      exact q _ _ F H p.2 (Ex.refl F) k rx
    · obtain ⟨e2, k2, r2⟩ := k.newTup hx ho (h2.append h4)
      exact q _ _ _ _ p.2 e2 k2 r2
  · rename_i xs ys
    obtain ⟨a, us, rfl, h1, h2⟩ := rx.inv_lst
    obtain ⟨b, ws, rfl, h3, h4⟩ := ry.inv_lst
    have l1 := h2.length
    have l2 := h4.length
    refine .inr (.inl ⟨a, b, us, ws, rfl, rfl, h1.mono k.fh, h3.mono k.fh, by rw [l1, l2]; exact sz2 p.1, fun x hx => ?_⟩)
    obtain ⟨e2, k2, r2⟩ := k.newLst hx (h2.append h4)
    exact q _ _ _ _ p.2 e2 k2 r2
  · cases rx.inv_str
    cases ry.inv_str
    exact .inr (.inr ⟨_, _, rfl, rfl, sz2 p.1, q _ _ F H p.2 (Ex.refl F) k (.str _)⟩)
  · exact p.elim
theorem dadd (ha : PE X a (liftE X.K Z wa)) (hb : PE X b (liftE X.K Z wb)) : PE X (.BinOp a .Add b pos) (liftE X.K Z (dOp oAdd wa wb)) := dop op_addD opd_add ha hb
mutual
theorem DR.dp {K : PySem.W.Frag} {H : Hp} : ∀ {d : PyData} {v : V}, DR K H v d → PyData.hasDict d = false → Dp K H v d
  | .none, _, h, _ => by cases h; exact .non
  | .bool b, _, h, _ => by cases h; exact .bl b
  | .int i, _, h, _ => by cases h; exact .int i
  | .str x, _, h, _ => by cases h; exact .str x
  | .list ds, _, h, hd => by
    cases h with
    | lst a b => exact .lst a.sq (DRs.dp b (by simpa [PyData.hasDict] using hd))
  | .tuple ds, _, h, hd => by
    cases h with
    | tup a b => exact .tup a.sq (DRs.dp b (by simpa [PyData.hasDict] using hd))
  | .dict kvs, _, _, hd => by simp [PyData.hasDict] at hd
theorem DRs.dp {K : PySem.W.Frag} {H : Hp} : ∀ {ds : List PyData} {vs : List V}, DRs K H vs ds → PyData.hasDictAll ds = false → DpAll K H vs ds
  | [], _, h, _ => by cases h; exact .nil
  | d :: ds, _, h, hd => by
    simp only [PyData.hasDictAll, Bool.or_eq_false_iff] at hd
    cases h with
    | cons a b => exact .cons (DR.dp a hd.1) (DRs.dp b hd.2)
end
/-- == of two data, not to be looked into -/
@[irreducible] def eqD (x y : PyData) : Bool := PyData.eqv x y
theorem eqD_eq {x y : PyData} : eqD x y = PyData.eqv x y := by
  unfold eqD
  rfl
theorem eqD_int {i j : Int} : eqD (.int i) (.int j) = decide (i = j) := by
  rw [eqD_eq]
  show (i == j) = _
  rw [Bool.beq_eq_decide_eq]
def oEq (x y : PyData) (P : PyData → Prop) : Prop := match x, y with
  | .str a, .str b => P (.bool (decide (a = b)))
  | x, y => (SeqAt.shaped x = true ∧ SeqAt.shaped y = true) ∧ P (.bool (eqD x y))
def oNe (x y : PyData) (P : PyData → Prop) : Prop := match x, y with
  | .str a, .str b => P (.bool (!decide (a = b)))
  | x, y => (SeqAt.shaped x = true ∧ SeqAt.shaped y = true) ∧ P (.bool (!eqD x y))
theorem dict_of_shaped {d : PyData} (h : SeqAt.shaped d = true) : PyData.hasDict d = false := PyData.hasDict_of_canLay d (SeqAt.canLay_of_shaped h)
def rEqE (K : PySem.W.Frag) : R2 := fun x y H Q => rEq x y H Q ∨ rEqD K x y H Q
def rNeE (K : PySem.W.Frag) : R2 := fun x y H Q => rNe x y H Q ∨ rNeD K x y H Q
theorem op_eqE (hu : X.A.units + 64 < cLine) : OpR X (compareOp .Eq) (rEqE X.K) := OpR.or op_eq (op_eqD hu)
theorem op_neE (hu : X.A.units + 64 < cLine) : OpR X (compareOp .NotEq) (rNeE X.K) := OpR.or op_ne (op_neD hu)
theorem str_dec {a b : Str} : decide (V.str a = V.str b) = decide (a = b) := by
  by_cases h : a = b
  · subst h
    rw [decide_eq_true rfl, decide_eq_true rfl]
  · rw [decide_eq_false h, decide_eq_false (fun z => h (V.str.inj z))]
theorem opd_eq : OpD K (rEqE K) oEq := by
  intro _ _ g F env σ H vx vy dx dy P Q k rx ry p q
  unfold oEq at p
  split at p
  · cases rx.inv_str
    cases ry.inv_str
    refine .inl ⟨rfl, ?_⟩
    rw [str_dec]
    exact q _ _ F H p (Ex.refl F) k (.bl _)
  · obtain ⟨⟨h1, h2⟩, p⟩ := p
    rw [eqD_eq] at p
    exact .inr ⟨_, _, DR.dp (drH k rx) (dict_of_shaped h1), DR.dp (drH k ry) (dict_of_shaped h2), h1, h2, q _ _ F H p (Ex.refl F) k (.bl _)⟩
theorem opd_ne : OpD K (rNeE K) oNe := by
  intro _ _ g F env σ H vx vy dx dy P Q k rx ry p q
  unfold oNe at p
  split at p
  · cases rx.inv_str
    cases ry.inv_str
    refine .inl ⟨rfl, ?_⟩
    rw [str_dec]
    exact q _ _ F H p (Ex.refl F) k (.bl _)
  · obtain ⟨⟨h1, h2⟩, p⟩ := p
    rw [eqD_eq] at p
    exact .inr ⟨_, _, DR.dp (drH k rx) (dict_of_shaped h1), DR.dp (drH k ry) (dict_of_shaped h2), h1, h2, q _ _ F H p (Ex.refl F) k (.bl _)⟩
def oIsN (x : PyData) (P : PyData → Prop) : Prop := match x with
  | .none => P (.bool true)
  | _ => P (.bool false)
def oNotN (x : PyData) (P : PyData → Prop) : Prop := match x with
  | .none => P (.bool false)
  | _ => P (.bool true)
theorem non_iff {F : Hp} {v : V} {d : PyData} (r : DR K F v d) : decide (v = .non) = match d with | .none => true | _ => false := by
  cases r <;> first | rfl | (apply decide_eq_false; intro h; cases h)
theorem tisN {j pos'} (ha : PE X a (liftE X.K Z wa)) : PT X (.Compare a [.Is] [.Constant .none j pos'] pos) (liftT X.K Z (dTest (dUn oIsN wa))) :=
  PT.of (pt_cmp (pc_isN ha) rfl) fun σ H Q h => by
    obtain ⟨g, F, env, P, k, w, q⟩ := h
    refine ⟨g, F, env, _, k, w, fun d env1 v F1 H1 p e1 k1 r1 => ?_⟩
    refine ⟨_, rfl, ?_⟩
    rw [non_iff r1]
    cases d <;> exact q _ env1 F1 H1 p e1 k1
theorem tnotN {j pos'} (ha : PE X a (liftE X.K Z wa)) : PT X (.Compare a [.IsNot] [.Constant .none j pos'] pos) (liftT X.K Z (dTest (dUn oNotN wa))) :=
  PT.of (pt_cmp (pc_notN ha) rfl) fun σ H Q h => by
    obtain ⟨g, F, env, P, k, w, q⟩ := h
    refine ⟨g, F, env, _, k, w, fun d env1 v F1 H1 p e1 k1 r1 => ?_⟩
    refine ⟨_, rfl, ?_⟩
    rw [non_iff r1]
    cases d <;> exact q _ env1 F1 H1 p e1 k1
abbrev DN := List PyData → (PyData → Prop) → Prop
abbrev dB (f : DN) (wa : DA) (env : List SD) (P : PyData → List SD → Prop) : Prop := wa env fun xs env' => f xs fun z => P z env'
def CallD (K : PySem.W.Frag) (r : List V → Hp → VK → Prop) (f : DN) : Prop :=
  ∀ (T : List (Addr × Str)) (Z : Zx T) (g : Gx Z) (F : Hp) (env : List SD) (σ : L2.St) (H : Hp) (vs : List V) (ds : List PyData) (P : PyData → Prop) (Q : VK), Ok K g F env σ H → DRs K F vs ds → f ds P →
    (∀ d v F' H', P d → Ex F F' → Ok K g F' env σ H' → DR K F' v d → Q v H') → r vs H Q
theorem lift_call {r : List V → Hp → VK → Prop} {f : DN} {was : DA} (hd : CallD K r f) {σ : L2.St} {H : Hp} {Q : VK} (h : liftE K Z (dB f was) σ H Q) : tCB r (liftA K Z was) σ H Q := by
  obtain ⟨g, F, env, P, k, w, q⟩ := h
  refine ⟨g, F, env, _, k, w, fun ds env1 vs F1 H1 p e1 k1 r1 => ?_⟩
  exact hd _ _ g F1 env1 σ H1 vs ds _ Q k1 r1 p fun d2 v2 F2 H2 p2 e2 k2 r2 => q d2 env1 v2 F2 H2 p2 (e1.trans e2) k2 r2
theorem dcb {x : Str} {id : String} {p : Pos} {r : List V → Hp → VK → Prop} {f : DN} {was : DA} (hc : CallR X (.builtin id) r) (hd : CallD X.K r f) (hm : X.mg x = none) (hv : bootBuiltins x = some (.builtin id)) (ha : PA X (e :: es) (liftA X.K Z was))
    (hg : Gl X x := by rfl) (hn : x ≠ "__name__" := by decide) (hdb : (x == ("__debug__" : Str)) = false := by decide)
    (he : starEach (e :: es) X.env = (false, eval e X.env) :: starEach es X.env := by rfl) (hpl : (backTo pos (starEach es X.env)).any (·.1) = false := by rfl) : PE X (.Call (.Name x p) (e :: es) [] pos) (liftE X.K Z (dB f was)) :=
  PE.of (pe_callB hc hg hm hv ha hn hdb he hpl) fun _ _ _ h => lift_call hd h
theorem dct {x : Str} {T : String} {p : Pos} {r : List V → Hp → VK → Prop} {f : DN} {was : DA} (hc : CallR X (.type T) r) (hd : CallD X.K r f) (hm : X.mg x = none) (hv : bootBuiltins x = some (.type T)) (ha : PA X (e :: es) (liftA X.K Z was))
    (hg : Gl X x := by rfl) (hn : x ≠ "__name__" := by decide) (hdb : (x == ("__debug__" : Str)) = false := by decide)
    (he : starEach (e :: es) X.env = (false, eval e X.env) :: starEach es X.env := by rfl) (hpl : (backTo pos (starEach es X.env)).any (·.1) = false := by rfl) : PE X (.Call (.Name x p) (e :: es) [] pos) (liftE X.K Z (dB f was)) :=
  PE.of (pe_callTy hc hg hm hv ha hn hdb he hpl) fun _ _ _ h => lift_call hd h
variable {was : DA} {p : Pos}
/-- all whole numbers -/
def intsD : List PyData → Option (List Int)
  | [] => some []
  | .int i :: r => (intsD r).map (i :: ·)
  | _ :: _ => none
def boolsD : List PyData → Option (List Bool)
  | [] => some []
  | .bool i :: r => (boolsD r).map (i :: ·)
  | _ :: _ => none
theorem ints_rel {F : Hp} : ∀ {ds : List PyData} {vs : List V} {ns : List Int}, DRs K F vs ds → intsD ds = some ns → vs = ns.map V.int
  | [], _, _, h, e => by cases h; cases e; rfl
  | .int i :: r, _, ns, h, e => by
    cases h with
    | cons a b =>
      cases q : intsD r with
      | none => simp [intsD, q] at e
      | some ms =>
        simp only [intsD, q, Option.map_some, Option.some.injEq] at e
        subst e
        cases a.inv_int
        rw [ints_rel b q]
        rfl
  | .none :: _, _, _, _, e => by simp [intsD] at e
  | .bool _ :: _, _, _, _, e => by simp [intsD] at e
  | .str _ :: _, _, _, _, e => by simp [intsD] at e
  | .list _ :: _, _, _, _, e => by simp [intsD] at e
  | .tuple _ :: _, _, _, _, e => by simp [intsD] at e
  | .dict _ :: _, _, _, _, e => by simp [intsD] at e
theorem bools_rel {F : Hp} : ∀ {ds : List PyData} {vs : List V} {ns : List Bool}, DRs K F vs ds → boolsD ds = some ns → vs = ns.map V.bl
  | [], _, _, h, e => by cases h; cases e; rfl
  | .bool i :: r, _, ns, h, e => by
    cases h with
    | cons a b =>
      cases q : boolsD r with
      | none => simp [boolsD, q] at e
      | some ms =>
        simp only [boolsD, q, Option.map_some, Option.some.injEq] at e
        subst e
        cases a.inv_bool
        rw [bools_rel b q]
        rfl
  | .none :: _, _, _, _, e => by simp [boolsD] at e
  | .int _ :: _, _, _, _, e => by simp [boolsD] at e
  | .str _ :: _, _, _, _, e => by simp [boolsD] at e
  | .list _ :: _, _, _, _, e => by simp [boolsD] at e
  | .tuple _ :: _, _, _, _, e => by simp [boolsD] at e
  | .dict _ :: _, _, _, _, e => by simp [boolsD] at e
def nLen (xs : List PyData) (P : PyData → Prop) : Prop := match xs with
  | [.list ds] => P (.int (ds.length : Nat))
  | [.tuple ds] => P (.int (ds.length : Nat))
  | [.str x] => x.length ≤ 100000 ∧ P (.int (x.length : Nat))
  | _ => False
theorem dlen (hm : X.mg "len" = none) (ha : PA X (e :: es) (liftA X.K Z was)) (hg : Gl X "len" := by rfl)
    (he : starEach (e :: es) X.env = (false, eval e X.env) :: starEach es X.env := by rfl) (hpl : (backTo pos (starEach es X.env)).any (·.1) = false := by rfl) : PE X (.Call (.Name "len" p) (e :: es) [] pos) (liftE X.K Z (dB nLen was)) :=
  dcb call_len (fun _ _ g F env σ H vs ds P Q k r f q => by
    unfold nLen at f
    split at f
    · obtain ⟨v, rfl, r0⟩ := r.inv1
      obtain ⟨a, us, rfl, h1, h2⟩ := r0.inv_lst
      exact ⟨_, us.length, rfl, .inl ⟨us, (h1.mono k.fh).sq, rfl⟩, by rw [h2.length]; exact q _ _ F H f (Ex.refl F) k (.int _)⟩
    · obtain ⟨v, rfl, r0⟩ := r.inv1
      obtain ⟨a, us, rfl, h1, h2⟩ := r0.inv_tup
      exact ⟨_, us.length, rfl, .inr ⟨us, Evl.ex_t k.fh h1, rfl⟩, by rw [h2.length]; exact q _ _ F H f (Ex.refl F) k (.int _)⟩
    · obtain ⟨v, rfl, r0⟩ := r.inv1
      cases r0.inv_str
      exact ⟨_, _, rfl, ⟨sz2 f.1, rfl⟩, q _ _ F H f.2 (Ex.refl F) k (.int _)⟩
    · exact f.elim) hm PySem.boot_len ha hg (by decide) (by decide) he hpl
def nAbs (xs : List PyData) (P : PyData → Prop) : Prop := match xs with
  | [.int i] => P (.int (if i < 0 then -i else i))
  | _ => False
theorem dabs (hm : X.mg "abs" = none) (ha : PA X (e :: es) (liftA X.K Z was)) (hg : Gl X "abs" := by rfl)
    (he : starEach (e :: es) X.env = (false, eval e X.env) :: starEach es X.env := by rfl) (hpl : (backTo pos (starEach es X.env)).any (·.1) = false := by rfl) : PE X (.Call (.Name "abs" p) (e :: es) [] pos) (liftE X.K Z (dB nAbs was)) :=
  dcb call_abs (fun _ _ g F env σ H vs ds P Q k r f q => by
    unfold nAbs at f
    split at f
    · obtain ⟨v, rfl, r0⟩ := r.inv1
      cases r0.inv_int
      exact ⟨_, rfl, q _ _ F H f (Ex.refl F) k (.int _)⟩
    · exact f.elim) hm (by decide +kernel) ha hg (by decide) (by decide) he hpl
def nMin2 (xs : List PyData) (P : PyData → Prop) : Prop := match xs with
  | [.int i, .int j] => P (.int (if j < i then j else i))
  | _ => False
def nMax2 (xs : List PyData) (P : PyData → Prop) : Prop := match xs with
  | [.int i, .int j] => P (.int (if j > i then j else i))
  | _ => False
theorem dmin2 (hm : X.mg "min" = none) (hc : X.calm = true) (ha : PA X (e :: es) (liftA X.K Z was)) (hg : Gl X "min" := by rfl)
    (he : starEach (e :: es) X.env = (false, eval e X.env) :: starEach es X.env := by rfl) (hpl : (backTo pos (starEach es X.env)).any (·.1) = false := by rfl) : PE X (.Call (.Name "min" p) (e :: es) [] pos) (liftE X.K Z (dB nMin2 was)) :=
  dcb (call_min2 hc) (fun _ _ g F env σ H vs ds P Q k r f q => by
    unfold nMin2 at f
    split at f
    · obtain ⟨v, w, rfl, r1, r2⟩ := r.inv2
      cases r1.inv_int
      cases r2.inv_int
      exact ⟨_, _, rfl, q _ _ F H f (Ex.refl F) k (.int _)⟩
    · exact f.elim) hm (by decide +kernel) ha hg (by decide) (by decide) he hpl
theorem dmax2 (hm : X.mg "max" = none) (hc : X.calm = true) (ha : PA X (e :: es) (liftA X.K Z was)) (hg : Gl X "max" := by rfl)
    (he : starEach (e :: es) X.env = (false, eval e X.env) :: starEach es X.env := by rfl) (hpl : (backTo pos (starEach es X.env)).any (·.1) = false := by rfl) : PE X (.Call (.Name "max" p) (e :: es) [] pos) (liftE X.K Z (dB nMax2 was)) :=
  dcb (call_max2 hc) (fun _ _ g F env σ H vs ds P Q k r f q => by
    unfold nMax2 at f
    split at f
    · obtain ⟨v, w, rfl, r1, r2⟩ := r.inv2
      cases r1.inv_int
      cases r2.inv_int
      exact ⟨_, _, rfl, q _ _ F H f (Ex.refl F) k (.int _)⟩
    · exact f.elim) hm (by decide +kernel) ha hg (by decide) (by decide) he hpl
def nAll (xs : List PyData) (P : PyData → Prop) : Prop := match xs with
  | [.list ds] => (match boolsD ds with | some bs => P (.bool (bs.all id)) | none => False)
  | _ => False
def nAny (xs : List PyData) (P : PyData → Prop) : Prop := match xs with
  | [.list ds] => (match boolsD ds with | some bs => P (.bool (bs.any id)) | none => False)
  | _ => False
theorem dall (hm : X.mg "all" = none) (hc : X.calm = true) (ha : PA X (e :: es) (liftA X.K Z was)) (hg : Gl X "all" := by rfl)
    (he : starEach (e :: es) X.env = (false, eval e X.env) :: starEach es X.env := by rfl) (hpl : (backTo pos (starEach es X.env)).any (·.1) = false := by rfl) : PE X (.Call (.Name "all" p) (e :: es) [] pos) (liftE X.K Z (dB nAll was)) :=
  dcb (cr_all hc) (fun _ _ g F env σ H vs ds P Q k r f q => by
    unfold nAll at f
    split at f
    · split at f
      · rename_i bs e
        obtain ⟨v, rfl, r0⟩ := r.inv1
        obtain ⟨a, us, rfl, h1, h2⟩ := r0.inv_lst
        cases bools_rel h2 e
        exact ⟨a, bs, rfl, (h1.mono k.fh).sq, q _ _ F H f (Ex.refl F) k (.bl _)⟩
      · exact f.elim
    · exact f.elim) hm (by decide +kernel) ha hg (by decide) (by decide) he hpl
/-- isinstance(x, T), T a built-in type -/
def tyName : PyData → String
  | .none => "NoneType"
  | .bool _ => "bool"
  | .int _ => "int"
  | .str _ => "str"
  | .list _ => "list"
  | .tuple _ => "tuple"
  | .dict [] => "dict"
  | .dict ((.int _, _) :: _) => "dict"
  | .dict ((.str _, _) :: _) => "dict"
  | .dict _ => "list"
def isiB (d : PyData) (T : String) : Bool := (T == tyName d) || (T == "int" && tyName d == "bool")
theorem tyX_of0 {F : Hp} {v : V} {d : PyData} (r : DR K F v d) (hno : ∀ c, d ≠ .dict [(.none, .str c)]) (hno2 : ∀ a c, v = .ref a → d = .dict [(.none, c)] → ¬ Opq K a c) : TyX K F v (.type (tyName d)) := by
  cases r with
  | exc _ _ => exact absurd rfl (hno _)
  | opq _ x => exact absurd x (hno2 _ _ rfl rfl)

  | non => exact .base .non
  | bl b => exact .base (.bl b)
  | int i => exact .base (.int i)
  | str x => exact .base (.str x)
  | lst h _ =>
    rcases h with (h | ⟨o, h⟩) | ⟨its, n, h, _⟩
    · exact .base (.lst h)
    · exact .base (.frz h)
    · exact .kList h rfl
  | tup h _ =>
    rcases h.sq with (h | ⟨o, h⟩) | ⟨o, its, n, h, hc, _⟩
    · exact .base (.tup h)
    · exact .fTuple h
    · exact .kTuple h hc
  | dct h m => cases m <;> exact .fDict h
  | row h _ => exact .base (.lst h)
theorem tyX_of {F : Hp} {v : V} {d : PyData} (r : DR K F v d) : TyX K F v (.type (tyName d)) ∨ (∃ a c, v = .ref a ∧ d = .dict [(.none, .str c)] ∧ F a = some (.ext (ExcAt (He.ga K c) a)) ∧ XcF K c) ∨ ∃ a c, v = .ref a ∧ d = .dict [(.none, c)] ∧ Opq K a c ∧ IsiNo K F a := by
  by_cases h : ∃ c, d = .dict [(.none, .str c)]
  · obtain ⟨c, rfl⟩ := h
    cases r with
    | exc h x => exact .inr (.inl ⟨_, _, rfl, rfl, h, x⟩)
    | dct _ m => cases m
    | opq h x => exact .inr (.inr ⟨_, _, rfl, rfl, x, h F (Ex.refl F)⟩)
  · by_cases h2 : ∃ a c, v = .ref a ∧ d = .dict [(.none, c)] ∧ Opq K a c
    · obtain ⟨a, c, rfl, rfl, x⟩ := h2
      cases r with
      | opq h x => exact .inr (.inr ⟨_, _, rfl, rfl, x, h F (Ex.refl F)⟩)
      | exc h3 x3 => exact absurd ⟨_, rfl⟩ h
      | dct _ m => cases m
      | row _ _ => rcases x with x | ⟨_, x, _⟩ <;> cases x
    · exact .inl (tyX_of0 r (fun c z => h ⟨c, z⟩) fun a c e1 e2 x => h2 ⟨a, c, e1, e2, x⟩)
theorem kit_isi (d : PyData) : ∀ T ∈ exTypes, PySem.W.kitOne K (.type (tyName d)) (.type T) = some (isiB d T) := by
  have h : ∀ N ∈ ["NoneType", "bool", "int", "str", "list", "tuple", "dict"], ∀ T ∈ exTypes, kitB N T = some ((T == N) || (T == "int" && N == "bool")) := by decide +kernel
  intro T hT
  exact kit_ty (h (tyName d) (by unfold tyName; split <;> simp) T hT)
/-- isinstance(e, c), e a caught refusal -/
def rIsE1 (K : PySem.W.Frag) : List V → Hp → VK → Prop := fun xs H Q => ∃ (a C : Addr) (c : V) (u : Value) (b : Bool), xs = [.ref a, c] ∧ ClsV c u ∧ H a = some (.ext (ExcAt C a)) ∧ ExcC K C ∧ PySem.W.kitOne K (.ref C) u = some b ∧ Q (.bl b) H
theorem exc_inst {H : Hp} {s : Shared} {σ : L2.St} {pins : List (Addr × Obj)} {a C : Addr} (I : Inv X pins σ H s) (h : H a = some (.ext (ExcAt C a))) : ∃ oe, PySem.W.InstAt s.heap a oe C none := by
  obtain ⟨⟨oe, vs, h1, h2, h3, h4, _⟩, _⟩ := (show ObjOk X.prog X.w H s.heap a (.ext (ExcAt C a)) from I.hok a _ h)
  obtain ⟨oc, od, oda, osl⟩ := oe
  dsimp only at h2 h3 h4
  subst h2 h3 h4
  exact ⟨_, h1, rfl, rfl, trivial⟩
theorem call_isE1 : CallR X (.builtin "isinstance") (rIsE1 X.K) := by
  intro pins s σ H xs us Q I r h
  obtain ⟨a, C, c, u, b, rfl, k, hH, x, e, q⟩ := h
  obtain ⟨u1, u2, rfl, r1, r2⟩ := vals2 r
  have e2 := k.eq r2
  subst e2
  cases (show u1 = Value.ref a from r1)
  obtain ⟨oe, J⟩ := exc_inst I hH
  exact PySem.W.kia_one (PySem.W.handS_kitx_exc x.hg x.hk x.hs x.hd x.ha x.hn x.ht x.hm) I.kIn J e (fun z => nomatch z) fun tk => ⟨.bl b, H, I.tok tk, rfl, q⟩
theorem CallR.or {f : Value} {r r' : List V → Hp → VK → Prop} (h : CallR X f r) (h' : CallR X f r') : CallR X f (fun xs H Q => r xs H Q ∨ r' xs H Q) := by
  intro pins s σ H xs us Q I rv q
  rcases q with q | q
  · exact h pins s σ H xs us Q I rv q
  · exact h' pins s σ H xs us Q I rv q
/-- isinstance of an opaque thing -/
def rIsO (K : PySem.W.Frag) : List V → Hp → VK → Prop := fun xs H Q => ∃ (a : Addr) (T : String), xs = [.ref a, .ty T] ∧ T ∈ exTypes ∧ IsiNo K H a ∧ Q (.bl false) H
theorem call_isO : CallR X (.builtin "isinstance") (rIsO X.K) := by
  intro pins s σ H xs us Q I r h
  obtain ⟨a, T, rfl, hT, no, q⟩ := h
  obtain ⟨u1, u2, rfl, r1, r2⟩ := vals2 r
  cases (show u1 = Value.ref a from r1)
  cases (show u2 = Value.type T from r2)
  exact no X pins s σ T Q rfl hT I q
theorem isi_opq {a : Addr} {c : PyData} (x : Opq K a c) : ∀ T ∈ exTypes, isiB (.dict [(.none, c)]) T = false := by
  intro T hT
  simp only [exTypes, List.mem_cons, List.not_mem_nil, or_false] at hT
  rcases x with rfl | ⟨f, rfl, _⟩ <;> rcases hT with rfl | rfl | rfl | rfl | rfl <;> rfl
abbrev dIsi (T : String) (wa : DE) (env : List SD) (P : PyData → List SD → Prop) : Prop := wa env fun d env' => P (.bool (isiB d T)) env'
theorem disi (T : String) (xT : Str) {p q2 : Pos} (hm : X.mg "isinstance" = none) (hmT : X.mg xT = none) (hvT : bootBuiltins xT = some (.type T)) (hT : T ∈ exTypes) (ha : PE X a (liftE X.K Z wa)) (hg : Gl X "isinstance" := by rfl) (hgT : Gl X xT := by rfl)
    (hnT : xT ≠ "__name__" := by decide) (hdT : (xT == ("__debug__" : Str)) = false := by decide)
    (hs1 : starEach [a, .Name xT q2] X.env = (false, eval a X.env) :: starEach [.Name xT q2] X.env := by rfl) (hs2 : starEach [.Name xT q2] X.env = (false, eval (.Name xT q2) X.env) :: starEach [] X.env := by rfl)
    (hpl : (backTo pos (starEach [Expr.Name xT q2] X.env)).any (·.1) = false := by rfl) : PE X (.Call (.Name "isinstance" p) [a, .Name xT q2] [] pos) (liftE X.K Z (dIsi T wa)) :=
  PE.of (pe_callB ((call_isi.or call_isE1).or call_isO) hg hm (by decide +kernel) (pa_cons ha (pa_cons (pe_bltn (v := .ty T) hgT hmT hvT rfl hnT hdT) pa_nil hs2) hs1) (by decide) (by decide) hs1 hpl) fun σ H Q h => by
    obtain ⟨g, F, env, P, k, w, q⟩ := h
    refine ⟨g, F, env, _, k, w, fun d env1 v F1 H1 p e1 k1 r1 => ?_⟩
    rcases tyX_of (drH k1 r1) with ty | ⟨a, c, rfl, rfl, hx, x⟩ | ⟨a, c, rfl, rfl, x, no⟩
    · exact .inl <| .inl ⟨v, .ty T, _, _, _, rfl, .ty T, ty, kit_isi d T hT, q _ env1 _ F1 H1 p e1 k1 (.bl _)⟩
    · refine .inl <| .inr ⟨a, _, .ty T, _, false, rfl, .ty T, hx, x.cls, x.six T hT, ?_⟩
      have e : isiB (.dict [(.none, .str c)]) T = false := by
        have : ∀ T ∈ exTypes, isiB (.dict [(.none, .str c)]) T = false := by
          intro T hT
          simp only [exTypes, List.mem_cons, List.not_mem_nil, or_false] at hT
          rcases hT with rfl | rfl | rfl | rfl | rfl <;> rfl
        exact this T hT
      rw [e] at p
      exact q _ env1 _ F1 H1 p e1 k1 (.bl _)
    · rw [isi_opq x T hT] at p
      exact .inr ⟨a, T, rfl, hT, no, q _ env1 _ F1 H1 p e1 k1 (.bl _)⟩
end
end DL

namespace DL
variable {T : List (PySem.Addr × PySem.Str)} {Z : Zx T}
open PySem PySem.Spec PyProof.Rows L2
open Evl (Ex)

abbrev DSp := List SD → (SD → List SD → Prop) → Prop
structure ArgsOk (T : List (Addr × Str)) (K : PySem.W.Frag) (F H : Hp) (vs : List V) (as : List SD) : Prop where
  len : as.length = vs.length
  fh : Ex F H
  dat : ∀ (i : Nat) (d : PyData), as[i]? = some (.dat d) → ∃ v, vs[i]? = some v ∧ DR K F v d
  cel : ∀ (i : Nat) (p : Bool) (xs : List PyData), as[i]? = some (.cel p xs) → p = true ∧ ∃ a us, vs[i]? = some (.ref a) ∧ F a = none ∧ H a = some (.lst us) ∧ DRs K F us xs
  sep : ∀ (i j : Nat) (p q : Bool) (xs ys : List PyData) (a : Addr), as[i]? = some (.cel p xs) → as[j]? = some (.cel q ys) → vs[i]? = some (.ref a) → vs[j]? = some (.ref a) → i = j
  nod : ∀ (i : Nat) (w : Own), as[i]? ≠ some (.dic w)
  tab : LamX.Tabs T H
  nt : ∀ a ps, F a ≠ some (.tbl ps)
structure PostOk (T : List (Addr × Str)) (K : PySem.W.Frag) (F H : Hp) (vs : List V) (as : List SD) (F' H' : Hp) (as' : List SD) (v : V) (r : SD) : Prop where
  ex : Ex F F'
  nt : ∀ a ps, F' a ≠ some (.tbl ps)
  fh : Ex F' H'
  newF : ∀ (a : Addr) (o : HO), F' a = some o → F a = some o ∨ H a = none
  frame : Frm T H (fun a => ∀ (i : Nat) (p : Bool) (xs : List PyData), as[i]? = some (.cel p xs) → vs[i]? ≠ some (.ref a)) H'
  cel : ∀ (i : Nat) (p : Bool) (xs : List PyData) (a : Addr), as[i]? = some (.cel p xs) → vs[i]? = some (.ref a) → ∃ ys us, as'[i]? = some (.cel true ys) ∧ F' a = none ∧ H' a = some (.lst us) ∧ DRs K F' us ys
  res : match r with
    | .un => False
    | .dat d => DR K F' v d
    | .cel _ xs => ∃ a us, v = .ref a ∧ F' a = none ∧ H' a = some (.lst us) ∧ DRs K F' us xs ∧ H a = none
    | .dic _ => False
def spD (T : List (Addr × Str)) (K : PySem.W.Frag) (S : DSp) (vs : List V) (H : Hp) (Q : VK) : Prop := ∃ (F : Hp) (as : List SD) (P : SD → List SD → Prop), ArgsOk T K F H vs as ∧ S as P ∧
  ∀ r as' v F' H', P r as' → PostOk T K F H vs as F' H' as' v r → Q v H'
/-- the def at f keeps its promise of data; n: its parameters; it raises nothing -/
structure FnG (P : Program) (w : World) (K : PySem.W.Frag) (mg : Str → Option Value) (base : Heap) (T : List (Addr × Str)) (k : Nat) (f : Addr) (fd : FuncData) (ps : List Str) (S : DSp) : Prop where
  len : ∀ as Q, S as Q → as.length = ps.length
  go : ∀ (A : Around) (outer : List Env) (s : Shared) (H : Hp) (args : Args) (us : List Value) (vs : List V) (Q : VK), Room k A → A.guards = some [] → Env0 P w K mg base A outer s H →
    BindsTo s fd args (ps.zip us) → Vals vs us → spD T K S vs H Q → codeAny (model P w) A (.call (.ref f) args) (CR CX0 outer P w H s Q E0) s
theorem FnG.mono {P : Program} {w : World} {K : PySem.W.Frag} {mg : Str → Option Value} {base : Heap} {j k : Nat} {f : Addr} {fd : FuncData} {ps : List Str} {S : DSp} (F : FnG P w K mg base T j f fd ps S) (h : j ≤ k) : FnG P w K mg base T k f fd ps S :=
  ⟨F.len, fun A outer s H args us vs Q hr => F.go A outer s H args us vs Q (hr.mono h)⟩
/-- another promise, that follows -/
theorem FnG.imp {P : Program} {w : World} {K : PySem.W.Frag} {mg : Str → Option Value} {base : Heap} {k : Nat} {f : Addr} {fd : FuncData} {ps : List Str} {S S' : DSp} (F : FnG P w K mg base T k f fd ps S) (h : ∀ as Q, S' as Q → S as Q) : FnG P w K mg base T k f fd ps S' :=
  ⟨fun as Q q => F.len as Q (h _ _ q), fun A outer s H args us vs Q hr hg e hb r ⟨F0, as, P, a1, a2, a3⟩ => F.go A outer s H args us vs Q hr hg e hb r ⟨F0, as, P, a1, h _ _ a2, a3⟩⟩
section
variable {K : PySem.W.Frag} {g : Gx Z} {F F' : Hp} {env : List SD} {σ : L2.St} {H H' : Hp}
/-- behind a call without cells -/
theorem Ok.after (k : Ok K g F env σ H) {vs : List V} {as as' : List SD} {v : V} {r : SD} (hc : ∀ (i : Nat) (p : Bool) (xs : List PyData), as[i]? ≠ some (.cel p xs)) (p : PostOk T K F H vs as F' H' as' v r) : Ok K g F' env σ H' ∧ ResOk K g F' env σ H' v r := by
  have fr : ∀ (a : Addr) (o : HO), H a = some o → Sty o (H' a) := fun a o e => p.frame.stay a o e fun i q xs z => absurd z (hc i q xs)
  have keepN : ∀ (a : Addr) (o : HO), H a = some o → F a = none → F' a = none := fun a o e n => by
    cases q : F' a with
    | none => rfl
    | some u =>
      rcases p.newF a u q with z | z
      · rw [n] at z; cases z
      · rw [e] at z; cases z
  refine ⟨⟨k.len, p.fh, fun i d e => ?_, fun i q xs e => ?_, k.sep, k.pin, k.frame.trans p.frame fun a o e n i q xs z => absurd z (hc i q xs), fun a o e => ?_, ⟨fun a o e => p.ex a o (k.oldF.1 a o e), p.nt⟩, fun a o e => ?_, (k.dic.keep p.ex (fun _ _ _ z => z) fun a ys e n => ⟨keepN a _ e n, (fr a _ e).ext.trans e.symm⟩)⟩, ?_⟩
  · obtain ⟨u, h1, h2⟩ := k.dat i d e
    exact ⟨u, h1, h2.mono p.ex⟩
  · obtain ⟨a, us, h1, h2, h3, h4, h5⟩ := k.cel i q xs e
    exact ⟨a, us, h1, keepN a _ h3 h2, (fr a _ h3).lst, h4.mono p.ex, h5⟩
  · rcases p.newF a o e with z | z
    · exact k.newF a o z
    · exact .inr (k.fresh0 z)
  · obtain ⟨z1, z2, z3⟩ := k.prot a o e
    exact ⟨(fr a _ z1).same (g.pl a o e), keepN a _ z1 z2, z3⟩
  · have pr := p.res
    cases r with
    | un => exact pr
    | dat d => exact pr
    | dic kvs => exact pr.elim
    | cel b xs =>
      obtain ⟨a, us, h1, h2, h3, h4, h5⟩ := pr
      refine ⟨a, us, h1, h2, h3, h4, k.fresh0 h5, ?_, fun j q ys e z => ?_⟩
      · cases e : g.Pr a with
        | none => rfl
        | some u =>
          have z := (k.prot a u e).1
          rw [h5] at z
          cases z
      · obtain ⟨a', ws, z1, _, z3, _⟩ := k.cel j q ys e
        rw [z] at z1
        cases z1
        rw [h5] at z3
        cases z3
/-- behind a call whose first argument is the cell of the name i -/
theorem Ok.afterC (k : Ok K g F env σ H) {i : Nat} {p : Bool} {xs : List PyData} {a : Addr} {vs : List V} {ds : List PyData} {as' : List SD} {v : V} {r : SD} (he : env[i]? = some (.cel p xs)) (hs : σ[i]? = some (some (.ref a)))
    (q : PostOk T K F H (.ref a :: vs) (.cel true xs :: ds.map .dat) F' H' as' v r) : ∃ ys rest, as' = .cel true ys :: rest ∧ Ok K g F' (env.set i (.cel p ys)) σ H' ∧ ResOk K g F' (env.set i (.cel p ys)) σ H' v r := by
  obtain ⟨a0, us0, b1, b2, b3, b4, b5, b6⟩ := k.cel i p xs he
  rw [hs] at b1
  cases b1
  obtain ⟨ys, us, c1, c2, c3, c4⟩ := q.cel 0 true xs a rfl rfl
  obtain ⟨rest, rfl⟩ : ∃ rest, as' = .cel true ys :: rest := by
    cases as' with
    | nil => simp at c1
    | cons x rest => simp at c1; subst c1; exact ⟨rest, rfl⟩
  have nc : ∀ (b : Addr), b ≠ a → ∀ (j : Nat) (p' : Bool) (xs' : List PyData), (SD.cel true xs :: ds.map SD.dat)[j]? = some (.cel p' xs') → (V.ref a :: vs)[j]? ≠ some (.ref b) := fun b ne j p' xs' z z2 => by
    cases j with
    | zero => simp at z2; exact ne z2.symm
    | succ j =>
      simp only [List.getElem?_cons_succ, List.getElem?_map] at z
      cases y : ds[j]? with
      | none => rw [y] at z; cases z
      | some d => rw [y] at z; cases z
  have fr : ∀ (b : Addr) (o : HO), H b = some o → b ≠ a → Sty o (H' b) := fun b o e ne => q.frame.stay b o e (nc b ne)
  have keepN : ∀ (b : Addr) (o : HO), H b = some o → F b = none → F' b = none := fun b o e n => by
    cases y : F' b with
    | none => rfl
    | some u =>
      rcases q.newF b u y with z | z
      · rw [n] at z; cases z
      · rw [e] at z; cases z
  have oth : ∀ {j : Nat} {p' : Bool} {zs : List PyData}, (env.set i (SD.cel p ys))[j]? = some (.cel p' zs) → ∃ p2 z2, env[j]? = some (.cel p2 z2) := fun {j p' zs} z => by
    rcases get_set z with ⟨rfl, _⟩ | ⟨_, z⟩
    · exact ⟨_, _, he⟩
    · exact ⟨_, _, z⟩
  refine ⟨ys, rest, rfl, ⟨by simp [k.len], q.fh, fun j d e => ?_, fun j p' zs e => ?_, fun j l p1 p2 z1 z2 c h1 h2 h3 h4 => ?_, fun j b e => ?_, k.frame.trans q.frame (fun b o e n => nc b ?_), fun b o e => ?_, ⟨fun b o e => q.ex b o (k.oldF.1 b o e), q.nt⟩, fun b o e => ?_, ((k.dic.setE (i := i) (x := .cel p ys) fun _ z => by cases z).keep q.ex (fun _ _ _ z => z) fun b zs e n => ⟨keepN b _ e n, (fr b _ e fun z => by rw [z, b3] at e; cases e).ext.trans e.symm⟩)⟩, ?_⟩
  · rcases get_set e with ⟨_, z⟩ | ⟨_, z⟩
    · cases z
    · obtain ⟨u, h1, h2⟩ := k.dat j d z
      exact ⟨u, h1, h2.mono q.ex⟩
  · rcases get_set e with ⟨rfl, z⟩ | ⟨n, z⟩
    · cases z
      exact ⟨a, us, hs, c2, c3, c4, b5, b6⟩
    · obtain ⟨b, ws, h1, h2, h3, h4, h5⟩ := k.cel j _ zs z
      have ne : b ≠ a := fun y => by
        subst y
        exact n (k.sep i j _ _ _ _ b he z hs h1)
      exact ⟨b, ws, h1, keepN b _ h3 h2, (fr b _ h3 ne).lst, h4.mono q.ex, h5⟩
  · obtain ⟨_, _, f1⟩ := oth h1
    obtain ⟨_, _, f2⟩ := oth h2
    exact k.sep j l _ _ _ _ c f1 f2 h3 h4
  · obtain ⟨zs, z⟩ := k.pin j b e
    by_cases n : i = j
    · subst n
      rw [he] at z
      cases z
      exact ⟨ys, set_eq he⟩
    · exact ⟨zs, by rw [set_ne n]; exact z⟩
  · intro z
    subst z
    cases p with
    | true => exact n i (b5 rfl)
    | false =>
      rw [b6 rfl] at e
      cases e
  · rcases q.newF b o e with z | z
    · exact k.newF b o z
    · exact .inr (k.fresh0 z)
  · obtain ⟨z1, z2, z3⟩ := k.prot b o e
    have ne : b ≠ a := fun z => by
      subst z
      exact z3 i p xs he hs
    refine ⟨(fr b _ z1 ne).same (g.pl b o e), keepN b _ z1 z2, fun j p' zs e' => ?_⟩
    obtain ⟨_, _, f1⟩ := oth e'
    exact z3 j _ _ f1
  · have pr := q.res
    cases r with
    | un => exact pr
    | dat d => exact pr
    | dic kvs => exact pr.elim
    | cel b xs2 =>
      obtain ⟨c, ws, h1, h2, h3, h4, h5⟩ := pr
      refine ⟨c, ws, h1, h2, h3, h4, k.fresh0 h5, ?_, fun j p' zs e z => ?_⟩
      · cases e : g.Pr c with
        | none => rfl
        | some u =>
          have z := (k.prot c u e).1
          rw [h5] at z
          cases z
      · obtain ⟨_, _, f1⟩ := oth e
        obtain ⟨a', ws', z1, _, z3, _⟩ := k.cel j _ _ f1
        rw [z] at z1
        cases z1
        rw [h5] at z3
        cases z3
theorem args_dat (hf : Ex F H) (tb : LamX.Tabs T H) (nt : ∀ a ps, F a ≠ some (.tbl ps)) {vs : List V} {ds : List PyData} (r : DRs K F vs ds) : ArgsOk T K F H vs (ds.map .dat) where
  len := by rw [List.length_map]; exact r.length.symm
  fh := hf
  dat := fun i d e => by
    rw [List.getElem?_map] at e
    cases q : ds[i]? with
    | none => rw [q] at e; cases e
    | some x =>
      rw [q] at e
      cases e
      exact r.get q
  cel := fun i p xs e => by
    rw [List.getElem?_map] at e
    cases q : ds[i]? with
    | none => rw [q] at e; cases e
    | some x => rw [q] at e; cases e
  sep := fun i j p q xs ys a e => by
    rw [List.getElem?_map] at e
    cases q : ds[i]? with
    | none => rw [q] at e; cases e
    | some x => rw [q] at e; cases e
  nod := fun i kvs e => by
    rw [List.getElem?_map] at e
    cases q : ds[i]? with
    | none => rw [q] at e; cases e
    | some x => rw [q] at e; cases e
  tab := tb
  nt := nt
theorem no_cel {ds : List PyData} (i : Nat) (p : Bool) (xs : List PyData) : (ds.map SD.dat)[i]? ≠ some (.cel p xs) := fun e => by
  rw [List.getElem?_map] at e
  cases q : ds[i]? with
  | none => rw [q] at e; cases e
  | some x => rw [q] at e; cases e
theorem args_cel (hf : Ex F H) (tb : LamX.Tabs T H) (nt : ∀ a ps, F a ≠ some (.tbl ps)) {a : Addr} {us : List V} {xs : List PyData} {vs : List V} {ds : List PyData} (hF : F a = none) (hH : H a = some (.lst us)) (rx : DRs K F us xs) (r : DRs K F vs ds) : ArgsOk T K F H (.ref a :: vs) (.cel true xs :: ds.map .dat) := by
  have b := args_dat hf tb nt r
  refine ⟨by simp [r.length], hf, fun i d e => ?_, fun i p zs e => ?_, fun i j p q zs ys c e1 e2 _ _ => ?_, fun i kvs e => ?_, tb, nt⟩
  · cases i with
    | zero => simp at e
    | succ i =>
      obtain ⟨v, h1, h2⟩ := b.dat i d (by simpa using e)
      exact ⟨v, by simpa using h1, h2⟩
  · cases i with
    | zero =>
      simp at e
      obtain ⟨rfl, rfl⟩ := e
      exact ⟨rfl, a, us, rfl, hF, hH, rx⟩
    | succ i => exact absurd (by simpa using e) (no_cel (ds := ds) i p zs)
  · cases i with
    | succ i => exact absurd (by simpa using e1) (no_cel (ds := ds) i p zs)
    | zero =>
      cases j with
      | zero => rfl
      | succ j => exact absurd (by simpa using e2) (no_cel (ds := ds) j q ys)
  · cases i with
    | zero => simp at e
    | succ i => exact b.nod i kvs (by simpa using e)
end

section
variable {X : Cx} {k : Nat} {f : Addr} {fd : FuncData} {ps : List Str} {S : DSp} {x : Str} {p pos : Pos} {e : Expr} {es : List Expr} {was : DA}
/-- the callee runs -/
theorem run_g {pins : List (Addr × Obj)} {σ : L2.St} {H : Hp} {s : Shared} {Q : VK} {us : List Value} {vs : List V} (G : FnG X.prog X.w X.K X.mg X.base T k f fd ps S) (hr : Room k X.A) (hg : X.A.guards = some []) (hb : Binds X.K fd ps [])
    (I : Inv X pins σ H s) (r : Vals vs us) (h : spD T X.K S vs H Q) : wpAny (model X.prog X.w) X.A (call (.ref f) us) (EP X pins σ Q) X.xe s := by
  obtain ⟨F0, as, P, a1, a2, a3⟩ := id h
  have hl : (us ++ ([] : List Value)).length = ps.length := by rw [List.append_nil, ← r.length, ← a1.len]; exact G.len _ _ a2
  have hbb := hb s us I.kIn hl
  rw [List.append_nil] at hbb
  refine wpAny_call (codeAny_mono (G.go X.A X.stack s H ⟨us, []⟩ us vs Q hr hg I.env0 hbb r h) fun res s' hq => ?_)
  match res, hq with
  | .error e, hq => exact hq.elim
  | .ok (.ret u), hq => exact I.after hq
  | .ok .next, hq => exact hq.elim
  | .ok .brk, hq => exact hq.elim
  | .ok .cont, hq => exact hq.elim
/-- f(..), all arguments data -/
abbrev dCall (S : DSp) (was : DA) (env : List SD) (P : SD → List SD → Prop) : Prop := was env fun ds env1 => S (ds.map .dat) fun r _ => P r env1
theorem dcall (G : FnG X.prog X.w X.K X.mg X.base T k f fd ps S) (hr : Room k X.A) (hA : X.A.guards = some []) (hm : X.mg x = some (.ref f)) (hk : PySem.W.keepIn X.K (.ref f) = true) (hb : Binds X.K fd ps [])
    (ha : PA X (e :: es) (liftA X.K Z was)) (hg : Gl X x := by rfl) (hdb : (x == ("__debug__" : Str)) = false := by decide)
    (he : starEach (e :: es) X.env = (false, eval e X.env) :: starEach es X.env := by rfl) (hpl : (backTo pos (starEach es X.env)).any (·.1) = false := by rfl) : PE X (.Call (.Name x p) (e :: es) [] pos) (liftX X.K Z (dCall S was)) := by
  refine ⟨fun pins s σ H Q I ⟨g, F, env, P, k0, w, q⟩ => wpAny_Call_Name_kw (ld_glob I hg hm (PySem.W.callWith_K (h₀ := X.base) I.ok.mod.kin hk (thn (ha.run pos pins s σ H (spD T X.K S · · Q) I ?_) fun us s1 ⟨vs, H1, I1, r, q1⟩ => ⟨I1.kIn, run_g G hr hA hb I1 r q1⟩) he hpl) hdb)⟩
  refine ⟨g, F, env, _, k0, w, fun ds env1 vs F1 H1 p1 e1 k1 r1 => ⟨F1, ds.map .dat, _, args_dat k1.fh k1.frame.tab k1.oldF.2 r1, p1, fun r as' v F2 H2 p2 po => ?_⟩⟩
  obtain ⟨k2, r2⟩ := k1.after no_cel po
  exact q r env1 v F2 H2 p2 (e1.trans po.ex) k2 r2
/-- f(x, ..), x the name i's own cell, which f may change -/
abbrev dCallC (S : DSp) (i : Nat) (was : DA) (env : List SD) (P : SD → List SD → Prop) : Prop := match env[i]? with
  | some (.cel _ _) => was env fun ds env1 => match env1[i]? with
    | some (.cel p xs) => S (.cel true xs :: ds.map .dat) fun r as' => match as' with
      | .cel _ ys :: _ => P r (env1.set i (.cel p ys))
      | _ => False
    | _ => False
  | _ => False
theorem dcallC (i : Nat) {y : Str} {p0 : Pos} (G : FnG X.prog X.w X.K X.mg X.base T k f fd ps S) (hr : Room k X.A) (hA : X.A.guards = some []) (hm : X.mg x = some (.ref f)) (hk : PySem.W.keepIn X.K (.ref f) = true) (hb : Binds X.K fd ps [])
    (ha : PA X es (liftA X.K Z was)) (hN : X.N[i]? = some y := by rfl) (hv : Vis X.env.scope y := by first | exact Or.inl rfl | exact Or.inr (Or.inl rfl) | exact Or.inr (Or.inr rfl)) (hd : (y == ("__debug__" : Str)) = false := by decide)
    (hcd : (y == ("__classdict__" : Str)) = false := by decide) (hg : Gl X x := by rfl) (hdb : (x == ("__debug__" : Str)) = false := by decide)
    (he : starEach (.Name y p0 :: es) X.env = (false, eval (.Name y p0) X.env) :: starEach es X.env := by rfl) (hpl : (backTo pos (starEach es X.env)).any (·.1) = false := by rfl) :
    PE X (.Call (.Name x p) (.Name y p0 :: es) [] pos) (liftX X.K Z (dCallC S i was)) := by
  refine ⟨fun pins s σ H Q I ⟨g, F, env, P, k0, w, q⟩ => wpAny_Call_Name_kw (ld_glob I hg hm (PySem.W.callWith_K (h₀ := X.base) I.ok.mod.kin hk (thn ((pa_cons (pe_var hN hv hd hcd) ha he).run pos pins s σ H (spD T X.K S · · Q) I ?_) fun us s1 ⟨vs, H1, I1, r, q1⟩ => ⟨I1.kIn, run_g G hr hA hb I1 r q1⟩) he hpl) hdb)⟩
  unfold dCallC at w
  split at w
  · rename_i p' xs' e0
    obtain ⟨a0, us0, b1, _⟩ := k0.cel i p' xs' e0
    refine ⟨_, b1, g, F, env, _, k0, w, fun ds env1 vs F1 H1 p1 e1 k1 r1 => ?_⟩
    split at p1
    · rename_i p2 xs ex
      obtain ⟨a1, us1, c1, c2, c3, c4, _⟩ := k1.cel i p2 xs ex
      rw [b1] at c1
      cases c1
      refine ⟨F1, _, _, args_cel k1.fh k1.frame.tab k1.oldF.2 c2 c3 c4 r1, p1, fun r as' v F2 H2 p3 po => ?_⟩
      obtain ⟨ys, rest, rfl, k2, r2⟩ := k1.afterC ex b1 po
      exact q r _ v F2 H2 p3 (e1.trans po.ex) k2 r2
    · exact p1.elim
  · exact w.elim
end

structure DEnds where
  nx : List SD → Prop
  rt : SD → List SD → Prop
  bk : List SD → Prop := fun _ => False
  ct : List SD → Prop := fun _ => False
  nol : Bool := false
abbrev DS := DEnds → List SD → Prop
structure Ends4 (K : PySem.W.Frag) (m : Nat) (g : Gx Z) (F : Hp) (P : DEnds) (D : Ends) : Prop where
  nx : ∀ env' σ' F' H', P.nx env' → Ex F F' → Ok K g F' env' σ' H' → D.nx σ' H'
  bk : ∀ env' σ' F' H', P.bk env' → Ex F F' → Ok K g F' env' σ' H' → D.bk σ' H'
  ct : ∀ env' σ' F' H', P.ct env' → Ex F F' → Ok K g F' env' σ' H' → D.ct σ' H'
  rt : ∀ r env' v σ' F' H', P.rt r (env'.take m) → Ex F F' → Ok K g F' env' σ' H' → ResOk K g F' env' σ' H' v r → D.rt v H'
/-- P.nol: no list stood at the def's begin -/
structure EndsOk (K : PySem.W.Frag) (m : Nat) (g : Gx Z) (F : Hp) (P : DEnds) (D : Ends) : Prop extends Ends4 K m g F P D where
  free : P.nol = true → (∀ a, g.F0 a = none) ∧ ∀ F', Ends4 K m g F' P D
theorem EndsOk.any {K : PySem.W.Frag} {m : Nat} {g : Gx Z} {F : Hp} {P : DEnds} {D : Ends} (h : EndsOk K m g F P D) (n : P.nol = true) (F' : Hp) : EndsOk K m g F' P D := ⟨(h.free n).2 F', h.free⟩
theorem EndsOk.mk4 {K : PySem.W.Frag} {m : Nat} {g : Gx Z} {F : Hp} {P : DEnds} {D : Ends} (h : Ends4 K m g F P D) (n : P.nol = false) : EndsOk K m g F P D := ⟨h, fun z => by rw [n] at z; cases z⟩
def liftS (K : PySem.W.Frag) (Z : Zx T) (m : Nat) (w : DS) : TS := fun D σ H => ∃ (g : Gx Z) (F : Hp) (env : List SD) (P : DEnds), Ok K g F env σ H ∧ w P env ∧ EndsOk K m g F P D
theorem EndsOk.ex {K : PySem.W.Frag} {m : Nat} {g : Gx Z} {F F' : Hp} {P : DEnds} {D : Ends} (h : EndsOk K m g F P D) (e : Ex F F') : EndsOk K m g F' P D :=
  ⟨⟨fun a b c d p x => h.nx a b c d p (e.trans x), fun a b c d p x => h.bk a b c d p (e.trans x), fun a b c d p x => h.ct a b c d p (e.trans x), fun a b c d f g' p x => h.rt a b c d f g' p (e.trans x)⟩, h.free⟩
section
variable {X : Cx} {st : Stmt} {sts : List Stmt} {w w2 : DS} {m : Nat} {e : Expr} {we : DE} {wx : DX} {pos : Pos}
abbrev dNext (E : DEnds) (env : List SD) : Prop := E.nx env
abbrev dSeq (w w2 : DS) (E : DEnds) (env : List SD) : Prop := w { E with nx := w2 E } env
abbrev dNever (_ : DEnds) (_ : List SD) : Prop := False
theorem snil : PSs X [] (liftS X.K Z m dNext) := PSs.of pss_nil fun D σ H ⟨g, F, env, P, k, w, q⟩ => q.nx env σ F H w (Ex.refl F) k
theorem scons (h1 : PS X st (liftS X.K Z m w)) (h2 : PSs X sts (liftS X.K Z m w2)) : PSs X (st :: sts) (liftS X.K Z m (dSeq w w2)) := PSs.of (pss_cons h1 h2) fun D σ H ⟨g, F, env, P, k, w, q⟩ =>
  ⟨g, F, env, _, k, w, ⟨⟨fun env' σ' F' H' p e k' => ⟨g, F', env', P, k', p, q.ex e⟩, q.bk, q.ct, q.rt⟩, fun n => ⟨(q.free n).1, fun F2 => ⟨fun env' σ' F' H' p e k' => ⟨g, F', env', P, k', p, q.any n F'⟩, ((q.free n).2 F2).bk, ((q.free n).2 F2).ct, ((q.free n).2 F2).rt⟩⟩⟩⟩
theorem sone (h1 : PS X st (liftS X.K Z m w)) : PSs X [st] (liftS X.K Z m w) := pss_one h1
theorem snever : PS X st (liftS X.K Z m dNever) := PS.of ps_never fun D σ H ⟨g, F, env, P, k, w, q⟩ => w
abbrev dCont (E : DEnds) (env : List SD) : Prop := E.ct env
theorem scont : PS X (.Continue pos) (liftS X.K Z m dCont) := PS.of ps_continue fun D σ H ⟨g, F, env, P, k, w, q⟩ => q.ct env σ F H w (Ex.refl F) k
/-- a name that is no parameter's cell -/
def npB : SD → Bool
  | .cel true _ => false
  | _ => true
def noPar (env : List SD) (i : Nat) : Bool := match env[i]? with
  | some r => npB r
  | none => true
theorem noPar_of {env : List SD} {i : Nat} (h : noPar env i = true) : NoPar env i := fun xs e => by
  unfold noPar at h
  rw [e] at h
  cases h
theorem Ok.setR {K : PySem.W.Frag} {g : Gx Z} {F : Hp} {env : List SD} {σ : L2.St} {H : Hp} {i : Nat} {v : V} {r : SD} (k : Ok K g F env σ H) (hp : noPar env i = true) (h : ResOk K g F env σ H v r) (hr : ∀ xs, r ≠ .cel true xs) : Ok K g F (env.set i r) (σ.set i (some v)) H := by
  cases r with
  | un => exact h.elim
  | dat d => exact k.setD (noPar_of hp) h
  | cel b xs =>
    obtain ⟨a, vs, rfl, h1, h2, h3, h4, h5, h6⟩ := h
    cases b with
    | true => exact absurd rfl (hr xs)
    | false => exact k.setC (noPar_of hp) h1 h2 h3 h4 h5 h6
  | dic kvs => exact h.elim
/-- what a new cell is called -/
def asOwn : SD → SD
  | .cel _ xs => .cel false xs
  | r => r
theorem res_own {K : PySem.W.Frag} {g : Gx Z} {F : Hp} {env : List SD} {σ : L2.St} {H : Hp} {v : V} {r : SD} (h : ResOk K g F env σ H v r) : ResOk K g F env σ H v (asOwn r) := by
  cases r <;> exact h
theorem own_ne {r : SD} (xs : List PyData) : asOwn r ≠ .cel true xs := by
  cases r <;> (intro h; cases h)
/-- name = e -/
abbrev dSet (i : Nat) (wx : DX) (E : DEnds) (env : List SD) : Prop := wx env fun r env1 => bIf (noPar env1 i) (E.nx (env1.set i (asOwn r))) False
theorem sset (i : Nat) {x : Str} {pos' : Pos} (hN : X.N.Nodup) (he : PE X e (liftX X.K Z wx)) (hi : X.N[i]? = some x := by rfl) (hx : Loc X.env.scope x := by first | exact Or.inl rfl | exact Or.inr rfl) (hs : swapsWith e (some (.Name x pos')) pos.line X.env = pure false := by rfl)
    (hf : X.fn x = true ∨ X.env.scope.names.lookup x = some .local := by first | exact .inl rfl | exact .inr rfl) : PS X (.Assign [.Name x pos'] e pos) (liftS X.K Z m (dSet i wx)) := PS.of (ps_set hN hi hx he hs hf) fun D σ H ⟨g, F, env, P, k, w, q⟩ =>
  ⟨g, F, env, _, k, w, fun r env1 v F1 H1 p e1 k1 r1 => q.nx _ _ F1 H1 (bIf_and p).2 e1 (k1.setR (bIf_and p).1 (res_own r1) own_ne)⟩
/-- return e -/
abbrev dRet (m : Nat) (wx : DX) (E : DEnds) (env : List SD) : Prop := wx env fun r env1 => E.rt (asOwn r) (env1.take m)
theorem sret (he : PE X e (liftX X.K Z wx)) : PS X (.Return (some e) pos) (liftS X.K Z m (dRet m wx)) := PS.of (ps_ret he) fun D σ H ⟨g, F, env, P, k, w, q⟩ =>
  ⟨g, F, env, _, k, w, fun r env1 v F1 H1 p e1 k1 r1 => q.rt _ env1 v σ F1 H1 p e1 k1 (res_own r1)⟩
/-- an expression for what it does -/
abbrev dDrop (wx : DX) (E : DEnds) (env : List SD) : Prop := wx env fun _ env1 => E.nx env1
theorem sexpr (he : PE X e (liftX X.K Z wx)) (hs : swapsWith e none pos.line X.env = pure false := by rfl) : PS X (.Expr e pos) (liftS X.K Z m (dDrop wx)) := PS.of (ps_expr he hs) fun D σ H ⟨g, F, env, P, k, w, q⟩ =>
  ⟨g, F, env, _, k, w, fun r env1 v F1 H1 p e1 k1 _ => q.nx env1 σ F1 H1 p e1 k1⟩
abbrev dIfS (t : DT) (w w2 : DS) (E : DEnds) (env : List SD) : Prop := t env fun b env1 => bIf b (w E env1) (w2 E env1)
theorem sif {c : Expr} {a b : List Stmt} {t : DT} (hc : PT X c (liftT X.K Z t)) (ha : PSs X a (liftS X.K Z m w)) (hb : PSs X b (liftS X.K Z m w2)) : PS X (.If c a b pos) (liftS X.K Z m (dIfS t w w2)) := PS.of (ps_if hc ha hb) fun D σ H ⟨g, F, env, P, k, w, q⟩ =>
  ⟨g, F, env, _, k, w, fun b env1 F1 H1 p e1 k1 => by
    cases b with
    | true => exact iteT ⟨g, F1, env1, P, k1, p, q.ex e1⟩
    | false => exact iteF ⟨g, F1, env1, P, k1, p, q.ex e1⟩⟩
theorem Ok.drop {K : PySem.W.Frag} {g : Gx Z} {F : Hp} {env : List SD} {σ : L2.St} {H : Hp} {i : Nat} {xs : List PyData} (k : Ok K g F env σ H) (he : env[i]? = some (.cel false xs)) : ∃ a, σ[i]? = some (some (.ref a)) ∧ Ok K g F (env.set i .un) σ H ∧ ResOk K g F (env.set i .un) σ H (.ref a) (.cel false xs) := by
  obtain ⟨a, vs, h1, h2, h3, h4, _, h6⟩ := k.cel i false xs he
  have np : NoPar env i := fun ys z => by rw [he] at z; cases z
  have k2 := k.setU (o := some (.ref a)) np
  have e : σ.set i (some (.ref a)) = σ := List.ext_getElem? fun j => by
    rw [List.getElem?_set]
    split
    · rename_i z
      subst z
      split
      · exact h1.symm
      · rename_i z
        exact absurd (List.getElem?_eq_some_iff.mp h1).1 z
    · rfl
  rw [e] at k2
  refine ⟨a, h1, k2, a, vs, rfl, h2, h3, h4, h6 rfl, ?_, fun j p ys hj z => ?_⟩
  · cases q : g.Pr a with
    | none => rfl
    | some u => exact absurd h1 ((k.prot a u q).2.2 i false xs he)
  · rcases get_set hj with ⟨_, q⟩ | ⟨n, q⟩
    · cases q
    · exact n (k.sep i j _ _ _ _ a he q h1 z)
/-- slots that are not to be known any more -/
def unS : List Nat → List SD → List SD
  | [], env => env
  | i :: is, env => match env[i]? with
    | some (.dat _) => unS is (env.set i .un)
    | some (.cel false _) => unS is (env.set i .un)
    | _ => unS is env
theorem Ok.unS {K : PySem.W.Frag} {g : Gx Z} {F : Hp} {σ : L2.St} {H : Hp} : ∀ {is : List Nat} {env : List SD}, Ok K g F env σ H → Ok K g F (unS is env) σ H
  | [], _, k => k
  | i :: is, env, k => by
    have go : NoPar env i → Ok K g F (env.set i .un) σ H := fun np => by
      by_cases hi : i < σ.length
      · have k2 := k.setU (o := σ[i]) np
        rw [List.set_getElem_self] at k2
        exact k2
      · have k2 := k.setU (o := none) np
        rw [show σ.set i none = σ from List.set_eq_of_length_le (Nat.le_of_not_lt hi)] at k2
        exact k2
    unfold DL.unS
    split
    · rename_i d e
      exact (go fun xs z => by rw [e] at z; cases z).unS
    · rename_i xs e
      exact (go fun ys z => by rw [e] at z; cases z).unS
    · exact k.unS
abbrev dForget (is : List Nat) (w : DS) (E : DEnds) (env : List SD) : Prop := w E (unS is env)
theorem ssforget (is : List Nat) (h : PSs X sts (liftS X.K Z m w)) : PSs X sts (liftS X.K Z m (dForget is w)) := PSs.of h fun D σ H ⟨g, F, env, P, k, w, q⟩ => ⟨g, F, _, P, k.unS, w, q⟩
end
end DL

namespace DL
variable {T : List (PySem.Addr × PySem.Str)} {Z : Zx T}
open PySem PySem.Spec PyProof.Rows L2
open Evl (Ex)

section
variable {X : Cx} {st : Stmt} {sts : List Stmt} {w w2 : DS} {m : Nat} {a b e : Expr} {es : List Expr} {wa wb we : DE} {wx : DX} {pos : Pos} {was : DA}
abbrev DG := PyData → List SD → (List SD → Prop) → Prop
/-- what goes to a target; with b (a tuple as the target) the tuple's object needn't be known -/
def DRw (K : PySem.W.Frag) (b : Bool) (F : Hp) (v : V) (d : PyData) : Prop := DR K F v d ∨ (b = true ∧ ∃ T xs ds, v = .ref T ∧ d = .tuple ds ∧ SqT K F T xs ∧ DRs K F xs ds)
theorem DRw.tup {K : PySem.W.Frag} {b : Bool} {F : Hp} {v : V} {ds : List PyData} (h : DRw K b F v (.tuple ds)) : ∃ a xs, v = .ref a ∧ SqT K F a xs ∧ DRs K F xs ds := by
  rcases h with h | ⟨_, T, xs, es, h1, h2, h3, h4⟩
  · exact h.inv_tup
  · cases h2
    exact ⟨T, xs, h1, h3, h4⟩
theorem DRw.non {K : PySem.W.Frag} {F : Hp} {v : V} {d : PyData} (h : DRw K false F v d) : DR K F v d := by
  rcases h with h | ⟨h, _⟩
  · exact h
  · cases h
def liftG (K : PySem.W.Frag) (Z : Zx T) (b : Bool) (w : DG) : TG := fun v σ H Q => ∃ (g : Gx Z) (F : Hp) (env : List SD) (d : PyData) (P : List SD → Prop), Ok K g F env σ H ∧ DRw K b F v d ∧ w d env P ∧
  ∀ env' σ' F' H', P env' → Ex F F' → Ok K g F' env' σ' H' → Q σ' H'
abbrev DGs := List PyData → List SD → (List SD → Prop) → Prop
def liftGs (K : PySem.W.Frag) (Z : Zx T) (w : DGs) : TGs := fun vs σ H Q => ∃ (g : Gx Z) (F : Hp) (env : List SD) (ds : List PyData) (P : List SD → Prop), Ok K g F env σ H ∧ DRs K F vs ds ∧ w ds env P ∧
  ∀ env' σ' F' H', P env' → Ex F F' → Ok K g F' env' σ' H' → Q σ' H'
theorem PG.of {t t' : TG} (h : PG X e t) (w : ∀ v σ H Q, t' v σ H Q → t v σ H Q) : PG X e t' := ⟨fun pins s σ H v u Q I r q => h.run pins s σ H v u Q I r (w v σ H Q q)⟩
theorem PGs.of {t t' : TGs} (h : PGs X es t) (w : ∀ v σ H Q, t' v σ H Q → t v σ H Q) : PGs X es t' := ⟨fun pins s σ H v u Q I r q => h.run pins s σ H v u Q I r (w v σ H Q q)⟩
def dgN (i : Nat) (d : PyData) (env : List SD) (P : List SD → Prop) : Prop := bIf (noPar env i) (P (env.set i (.dat d))) False
theorem gn (i : Nat) {x : Str} (hN : X.N.Nodup) (hi : X.N[i]? = some x := by rfl) (hx : Loc X.env.scope x := by first | exact Or.inl rfl | exact Or.inr rfl)
    (hf : X.fn x = true ∨ X.env.scope.names.lookup x = some .local := by first | exact .inl rfl | exact .inr rfl) : PG X (.Name x pos) (liftG X.K Z false (dgN i)) := PG.of (pg_name hN hi hx hf) fun v σ H Q ⟨g, F, env, d, P, k, r, w, q⟩ =>
  q _ _ F H (bIf_and w).2 (Ex.refl F) (k.setD (noPar_of (bIf_and w).1) r.non)
def nilQ (ds : List PyData) (p : Prop) : Prop := match ds with
  | [] => p
  | _ :: _ => False
def consQ (ds : List PyData) (K : PyData → List PyData → Prop) : Prop := match ds with
  | d :: r => K d r
  | [] => False
def tupQ (d : PyData) (K : List PyData → Prop) : Prop := match d with
  | .tuple ds => K ds
  | _ => False
theorem nilQ_inv {ds : List PyData} {p : Prop} (h : nilQ ds p) : ds = [] ∧ p := by
  cases ds
  · exact ⟨rfl, h⟩
  · exact h.elim
theorem consQ_inv {ds : List PyData} {K : PyData → List PyData → Prop} (h : consQ ds K) : ∃ d r, ds = d :: r ∧ K d r := by
  cases ds
  · exact h.elim
  · exact ⟨_, _, rfl, h⟩
theorem tupQ_inv {d : PyData} {K : List PyData → Prop} (h : tupQ d K) : ∃ ds, d = .tuple ds ∧ K ds := by
  cases d <;> first | exact ⟨_, rfl, h⟩ | exact h.elim
def dgNil (ds : List PyData) (env : List SD) (P : List SD → Prop) : Prop := nilQ ds (P env)
def dgCons (t : DG) (u : DGs) (ds : List PyData) (env : List SD) (P : List SD → Prop) : Prop := consQ ds fun d r => t d env fun env1 => u r env1 P
theorem gnil : PGs X [] (liftGs X.K Z dgNil) := PGs.of pgs_nil fun v σ H Q ⟨g, F, env, ds, P, k, r, w, q⟩ => by
  obtain ⟨rfl, w⟩ := nilQ_inv w
  cases r
  exact ⟨rfl, q env σ F H w (Ex.refl F) k⟩
theorem gcons {t : DG} {u : DGs} {bb : Bool} (h1 : PG X e (liftG X.K Z bb t)) (h2 : PGs X es (liftGs X.K Z u)) (hs : (assignEach (e :: es) X.env).map (·.2) = assign e X.env :: (assignEach es X.env).map (·.2) := by rfl) : PGs X (e :: es) (liftGs X.K Z (dgCons t u)) :=
  PGs.of (pgs_cons h1 h2 hs) fun v σ H Q ⟨g, F, env, ds, P, k, r, w, q⟩ => by
    obtain ⟨d, r0, rfl, w⟩ := consQ_inv w
    cases r with
    | cons r1 r2 =>
        exact ⟨_, _, rfl, g, F, env, _, _, k, .inl r1, w, fun env1 σ1 F1 H1 p e1 k1 => ⟨g, F1, env1, _, P, k1, r2.mono e1, p, fun env2 σ2 F2 H2 p2 e2 k2 => q env2 σ2 F2 H2 p2 (e1.trans e2) k2⟩⟩
def dgT (n : Nat) (t : DGs) (d : PyData) (env : List SD) (P : List SD → Prop) : Prop := tupQ d fun ds => t ds env P
/-- a target that takes a datum goes on -/
def GOk (t : DG) : Prop := ∀ d env P, t d env P → ∃ env1, P env1
def GLen (t : DGs) (n : Nat) : Prop := ∀ ds env P, t ds env P → ds.length = n ∧ ∃ env1, P env1
theorem gok_n {i : Nat} : GOk (dgN i) := fun d env P h => ⟨_, (bIf_and h).2⟩
theorem gl_nil : GLen dgNil 0 := fun ds env P h => by
  obtain ⟨rfl, h⟩ := nilQ_inv h
  exact ⟨rfl, env, h⟩
theorem gl_cons {t : DG} {u : DGs} {n : Nat} (h1 : GOk t) (h2 : GLen u n) : GLen (dgCons t u) (n + 1) := fun ds env P h => by
  obtain ⟨d, r, rfl, h⟩ := consQ_inv h
  obtain ⟨env1, h⟩ := h1 _ _ _ h
  obtain ⟨e, h⟩ := h2 _ _ _ h
  exact ⟨by simp [e], h⟩
theorem gtup {k n : Nat} {t : DGs} (hl : GLen t n) (hc : X.calm = true) (h : PGs X es (liftGs X.K Z t)) (hn : (assignEach es X.env).length = n := by rfl) (hst : (assignEach es X.env).findIdx? (·.1) = none := by rfl) : PG X (.Tuple es k pos) (liftG X.K Z true (dgT n t)) :=
  PG.of (pg_tup hc h hn hst) fun v σ H Q ⟨g, F, env, d, P, k, r, w, q⟩ => by
    obtain ⟨ds, rfl, w⟩ := tupQ_inv w
    obtain ⟨a, xs, rfl, h1, h2⟩ := r.tup
    exact ⟨a, xs, rfl, Evl.ex_t k.fh h1, h2.length.trans (hl _ _ _ w).1, g, F, env, _, P, k, h2, w, q⟩
/-- target = e, of a datum -/
abbrev dAsg (t : DG) (we : DE) (E : DEnds) (env : List SD) : Prop := we env fun d env1 => t d env1 E.nx
theorem sasg {tg : Expr} {t : DG} {bb : Bool} (he : PE X e (liftE X.K Z we)) (hg : PG X tg (liftG X.K Z bb t)) (hs : swapsWithSole [tg] e pos.line X.env = pure false := by rfl) (hw : swappedStores [tg] e X.env = pure none := by rfl)
    (h1 : (assignEach [tg] X.env).map (·.2) = [assign tg X.env] := by rfl) : PS X (.Assign [tg] e pos) (liftS X.K Z m (dAsg t we)) := PS.of (ps_asg he hg hs hw h1) fun D σ H ⟨g, F, env, P, k, w, q⟩ =>
  ⟨g, F, env, _, k, w, fun d env1 v F1 H1 p e1 k1 r1 => ⟨g, F1, env1, d, _, k1, .inl r1, p, fun env2 σ2 F2 H2 p2 e2 k2 => q.nx env2 σ2 F2 H2 p2 (e1.trans e2) k2⟩⟩
theorem noPar_set {env : List SD} {i j : Nat} {d : PyData} (h : noPar env j = true) : noPar (env.set i (.dat d)) j = true := by
  unfold noPar at h ⊢
  rw [List.getElem?_set]
  by_cases z : i = j
  · rw [if_pos z]
    by_cases y : i < env.length
    · rw [if_pos y]
      rfl
    · rw [if_neg y]
  · rw [if_neg z]
    exact h
/-- x[i] = e, x the name's own cell -/
def stQ (xs : List PyData) (y d : PyData) (K : List PyData → Prop) : Prop := match y with
  | .int n => (match ixN xs.length n with
    | some j => K (xs.set j d)
    | none => False)
  | _ => False
abbrev dSetC (i : Nat) (wi we : DE) (E : DEnds) (env : List SD) : Prop := we env fun d env1 => match env1[i]? with
  | some (.cel _ _) => wi env1 fun y env2 => match env2[i]? with
    | some (.cel p xs) => stQ xs y d fun xs' => E.nx (env2.set i (.cel p xs'))
    | _ => False
  | _ => False
theorem ssetC (i : Nat) {x : Str} {p0 p1 : Pos} (he : PE X e (liftE X.K Z we)) (hi : PE X b (liftE X.K Z wb)) (hN : X.N[i]? = some x := by rfl) (hv : Vis X.env.scope x := by first | exact Or.inl rfl | exact Or.inr (Or.inl rfl) | exact Or.inr (Or.inr rfl)) (hd : (x == ("__debug__" : Str)) = false := by decide)
    (hcd : (x == ("__classdict__" : Str)) = false := by decide)
    (hs : swapsWithSole [.Subscript (.Name x p0) b p1] e pos.line X.env = pure false := by rfl) (hw : swappedStores [.Subscript (.Name x p0) b p1] e X.env = pure none := by rfl)
    (h1 : (assignEach [.Subscript (.Name x p0) b p1] X.env).map (·.2) = [assign (.Subscript (.Name x p0) b p1) X.env] := by rfl)
    (ha : ∀ v, assign (.Subscript (.Name x p0) b p1) X.env v = (do
      let ov ← holding [v] (eval (.Name x p0) X.env)
      let iv ← holding [v, ov] (eval b X.env)
      standAt p1
      holding [v, ov, iv] (setItem ov iv v)
      release [v, ov, iv] []) := by intro _; rfl) : PS X (.Assign [.Subscript (.Name x p0) b p1] e pos) (liftS X.K Z m (dSetC i wb we)) :=
  PS.of (ps_asg he (pg_sub (pe_var hN hv hd hcd) hi set_list ha) hs hw h1) fun D σ H ⟨g, F, env, P, k, w, q⟩ =>
  ⟨g, F, env, _, k, w, fun d env1 v F1 H1 p e1 k1 r1 => by
    split at p
    · rename_i p' xs' ex
      obtain ⟨a0, us0, b1, _⟩ := k1.cel i p' xs' ex
      refine ⟨_, b1, g, F1, env1, _, k1, p, fun d2 env2 v2 F2 H2 p2 e2 k2 r2 => ?_⟩
      split at p2
      · rename_i p3 xs ex2
        obtain ⟨n, rfl, p2⟩ : ∃ n, d2 = .int n ∧ stQ xs (.int n) d _ := by
          cases d2 <;> first | exact ⟨_, rfl, p2⟩ | exact p2.elim
        cases r2.inv_int
        unfold stQ at p2
        dsimp only at p2
        split at p2
        · rename_i j ej
          obtain ⟨a1, us1, c1, c2, c3, c4, _⟩ := k2.cel i p3 xs ex2
          rw [b1] at c1
          cases c1
          exact ⟨a0, us1, n, j, rfl, rfl, c3, by rw [c4.length]; exact ej, q.nx _ σ F2 _ p2 (e1.trans e2) (k2.write ex2 b1 (c4.set j (r1.mono e2)))⟩
        · exact p2.elim
      · exact p2.elim
    · exact p.elim⟩
/-- x.append(e) -/
def apQ (xs : List PyData) (d : PyData) (K : List PyData → Prop) : Prop := xs.length < 100000 ∧ K (xs ++ [d])
abbrev dApp (i : Nat) (we : DE) (E : DEnds) (env : List SD) : Prop := match env[i]? with
  | some (.cel _ _) => we env fun d env1 => match env1[i]? with
    | some (.cel p xs) => apQ xs d fun xs' => E.nx (env1.set i (.cel p xs'))
    | _ => False
  | _ => False
theorem sapp (i : Nat) {x : Str} {p0 apos cpos : Pos} (he : PE X e (liftE X.K Z we)) (hN : X.N[i]? = some x := by rfl) (hv : Vis X.env.scope x := by first | exact Or.inl rfl | exact Or.inr (Or.inl rfl) | exact Or.inr (Or.inr rfl)) (hd : (x == ("__debug__" : Str)) = false := by decide)
    (hcd : (x == ("__classdict__" : Str)) = false := by decide)
    (h1 : attributeBase (.Name x p0) "append" X.env (eval (.Name x p0) X.env) = eval (.Name x p0) X.env := by rfl)
    (h2 : ((backTo cpos (starEach [e] X.env)).all (!·.1) && (backToKw cpos (keywordEach [] X.env)).all (·.1.isSome) && decide ([e].length + ([] : List Keyword).length + (if ([] : List Keyword).isEmpty then 0 else 1) < 30)) = true := by rfl)
    (h3 : (apos.endLine == cpos.line) = true := by rfl)
    (h4 : starEach [e] X.env = (false, eval e X.env) :: starEach [] X.env := by rfl) (h5 : (backTo cpos (starEach [] X.env)).any (·.1) = false := by rfl)
    (hs : swapsWith (.Call (.Attribute (.Name x p0) "append" apos) [e] [] cpos) none pos.line X.env = pure false := by rfl) :
    PS X (.Expr (.Call (.Attribute (.Name x p0) "append" apos) [e] [] cpos) pos) (liftS X.K Z m (dApp i we)) :=
  PS.of (ps_expr (pe_bm PySem.F.plainAttrs_list PySem.F.slot_list_append PySem.F.type_list_append mt_append (pe_var hN hv hd hcd) (pa_cons he pa_nil h4) h1 h2 h3 h4 h5) hs) fun D σ H ⟨g, F, env, P, k, w, q⟩ => by
    unfold dApp at w
    split at w
    · rename_i p' xs' ex
      obtain ⟨a0, us0, b1, _, b3, _⟩ := k.cel i p' xs' ex
      refine ⟨_, b1, .inl ⟨rfl, us0, SqL.of b3⟩, g, F, env, _, k, w, fun d env1 v F1 H1 p e1 k1 r1 => ?_⟩
      split at p
      · rename_i p3 xs ex2
        obtain ⟨a1, us1, c1, c2, c3, c4, _⟩ := k1.cel i p3 xs ex2
        rw [b1] at c1
        cases c1
        exact ⟨a0, us1, v, rfl, rfl, c3, by rw [c4.length]; exact Evl.sz_lt p.1, q.nx _ σ F1 _ p.2 e1 (k1.write ex2 b1 (c4.append (.one r1)))⟩
      · exact p.elim
    · exact w.elim
abbrev RT := SD → List SD → Prop
def decP {I S : Type} (is : List Nat) (dec : List SD → Option (I × S)) (N : I → S → Prop) (env : List SD) : Prop := match dec (unS is env) with
  | some (i, s) => N i s
  | none => False
theorem decP_inv {I S : Type} {is : List Nat} {dec : List SD → Option (I × S)} {N : I → S → Prop} {env : List SD} (h : decP is dec N env) : ∃ i s, dec (unS is env) = some (i, s) ∧ N i s := by
  unfold decP at h
  split at h
  · exact ⟨_, _, ‹_›, h⟩
  · exact h.elim
/-- the state behind: what a loop doesn't change stays -/
def same {I S : Type} (i : I) (N : S → Prop) (i' : I) (s : S) : Prop := i' = i ∧ N s
abbrev DI := List SD → (List PyData → List SD → Prop) → Prop
def Yld (K : PySem.W.Frag) (b : Bool) (F H : Hp) (x : V) (H' : Hp) (d : PyData) : Prop := (H' = H ∧ DR K F x d) ∨ b = true ∧ ∃ T xs ds, x = .ref T ∧ H T = none ∧ H' = upd H T (.tup xs) ∧ d = .tuple ds ∧ DRs K F xs ds
structure WalkD (K : PySem.W.Frag) (b : Bool) (F : Hp) (J : It) (items : List PyData) : Prop where
  ex : ∃ G Y, Walk J items.length G Y ∧ (∀ H, Ex F H → G H) ∧ ∀ i H x H' d, Ex F H → items[i]? = some d → Y i H x H' → Yld K b F H x H' d
def liftI (K : PySem.W.Frag) (Z : Zx T) (b : Bool) (w : DI) : TI := fun σ H R => ∃ (g : Gx Z) (F : Hp) (env : List SD) (P : List PyData → List SD → Prop), Ok K g F env σ H ∧ w env P ∧
  ∀ items env' J F' H', P items env' → Ex F F' → Ok K g F' env' σ H' → WalkD K b F' J items → R J H'
theorem PI.of {tg e : Expr} {t t' : TI} (h : PI X tg e t) (w : ∀ σ H R, t' σ H R → t σ H R) : PI X tg e t' := ⟨fun pins s σ H R I q => h.run pins s σ H R I (w σ H R q)⟩
theorem Ok.yld {K : PySem.W.Frag} {b : Bool} {g : Gx Z} {F F0 : Hp} {env : List SD} {σ : L2.St} {H H' : Hp} {x : V} {d : PyData} (k : Ok K g F env σ H) (e : Ex F0 F) (y : Yld K b F0 H x H' d) : ∃ F', Ex F F' ∧ Ok K g F' env σ H' ∧ DRw K b F' x d := by
  rcases y with ⟨rfl, r⟩ | ⟨hb, T, xs, ds, rfl, hT, rfl, rfl, r⟩
  · exact ⟨F, Ex.refl F, k, .inl (r.mono e)⟩
  · have ex : Ex F (upd F T (.tup xs)) := Ex.new (fnone k.fh hT)
    exact ⟨_, ex, k.alloc hT, .inr ⟨hb, T, xs, ds, rfl, rfl, SqT.of upd_same, (r.mono e).mono ex⟩⟩
/-- lo, lo + 1, .. -/
def rangeD (lo : Int) (n : Nat) : List PyData := (List.range n).map fun (i : Nat) => .int (lo + i)
theorem walkD_range {K : PySem.W.Frag} {b : Bool} {F : Hp} (lo : Int) (n : Nat) : WalkD K b F (Itr lo n) (rangeD lo n) := by
  refine ⟨fun _ => True, YFn fun i => .int (lo + i), by rw [show (rangeD lo n).length = n by simp [rangeD]]; exact walk_range, fun _ _ => trivial, fun i H x H' d _ e y => .inl ⟨y.1, ?_⟩⟩
  have y2 := y.2
  subst y2
  unfold rangeD at e
  rw [List.getElem?_map] at e
  by_cases hi : i < n
  · rw [List.getElem?_range hi] at e
    cases e
    exact .int _
  · rw [List.getElem?_eq_none (by simp; omega)] at e
    cases e
abbrev QI := List PyData → (List PyData → Prop) → Prop
/-- what is walked, by arguments -/
abbrev dIt (f : QI) (was : DA) (env : List SD) (P : List PyData → List SD → Prop) : Prop := was env fun ds env' => f ds fun items => P items env'
/-- K of l, sealed: the kernel doesn't look at what is walked -/
inductive At (l : List PyData) (K : List PyData → Prop) : Prop
  | mk : K l → At l K
theorem At.out {l : List PyData} {K : List PyData → Prop} (h : At l K) : K l := by
  cases h with
  | mk h => exact h
theorem At.eq {l : List PyData} {K : List PyData → Prop} : At l K = K l := propext ⟨At.out, At.mk⟩
def rng1 (ds : List PyData) (K : List PyData → Prop) : Prop := match ds with
  | [.int n] => (-1000000 ≤ n ∧ n ≤ 1000000) ∧ At (rangeD 0 n.toNat) K
  | _ => False
def rng2 (ds : List PyData) (K : List PyData → Prop) : Prop := match ds with
  | [.int m, .int n] => (-1000000 ≤ m ∧ m ≤ 1000000 ∧ -1000000 ≤ n ∧ n ≤ 1000000) ∧ At (rangeD m (n - m).toNat) K
  | _ => False
theorem irange1 {tg : Expr} {bb : Bool} {p : Pos} (hm : X.mg "range" = none) (ha : PA X [a] (liftA X.K Z was)) (hg : Gl X "range" := by rfl) (hs : starEach [a] X.env = [(false, eval a X.env)] := by rfl) : PI X tg (.Call (.Name "range" p) [a] [] pos) (liftI X.K Z bb (dIt rng1 was)) :=
  PI.of (pi_range1 hg hm ha hs) fun σ H R ⟨g, F, env, P, k, w, q⟩ => ⟨g, F, env, _, k, w, fun ds env1 vs F1 H1 p e1 k1 r1 => by
    unfold rng1 at p
    split at p
    · obtain ⟨v, rfl, r2⟩ := r1.inv1
      cases r2.inv_int
      have p1 := p.1
      exact ⟨_, rfl, by omega, by omega, q _ env1 _ F1 H1 p.2.out e1 k1 (walkD_range 0 _)⟩
    · exact p.elim⟩
theorem walkD_list {K : PySem.W.Frag} {bb : Bool} {F : Hp} {a : Addr} {xs : List V} {ds : List PyData} (h : RdL K F a xs) (r : DRs K F xs ds) : WalkD K bb F (Itl K a) ds :=
  ⟨fun H => SqL K H a xs, YAt xs, by rw [← r.length]; exact walk_list (xs := xs), fun H e => (h.mono e).sq, fun i H x H' d _ e y => .inl ⟨y.1, by
    obtain ⟨v, h1, h2⟩ := r.get e
    have y2 := y.2
    rw [h1] at y2
    cases y2
    exact h2⟩⟩
theorem walkD_tup {K : PySem.W.Frag} {bb : Bool} {F : Hp} {a : Addr} {xs : List V} {ds : List PyData} (h : SqT K F a xs) (r : DRs K F xs ds) : WalkD K bb F (Itt K a) ds :=
  ⟨fun H => SqT K H a xs, YAt xs, by rw [← r.length]; exact walk_tup (xs := xs), fun H e => Evl.ex_t e h, fun i H x H' d _ e y => .inl ⟨y.1, by
    obtain ⟨v, h1, h2⟩ := r.get e
    have y2 := y.2
    rw [h1] at y2
    cases y2
    exact h2⟩⟩
/-- a text's signs -/
@[irreducible] def signsD (x : Str) : List PyData := x.cps.toList.map fun c => .str ⟨#[c]⟩
theorem walkD_str {K : PySem.W.Frag} {bb : Bool} {F : Hp} (x : Str) : WalkD K bb F (Its x) (signsD x) :=
  ⟨fun _ => True, fun i H v H' => H' = H ∧ ∃ c, x.cps[i]? = some c ∧ v = .str ⟨#[c]⟩, by rw [show (signsD x).length = x.cps.size by unfold signsD; simp]; exact walk_str, fun _ _ => trivial, fun i H v H' d _ e y => .inl ⟨y.1, by
    obtain ⟨c, h1, rfl⟩ := y.2
    unfold signsD at e
    rw [List.getElem?_map, Array.getElem?_toList, h1] at e
    cases e
    exact .str _⟩⟩
/-- over a list, a tuple or a text -/
def iSeq (K : PySem.W.Frag) (tl : TE) : TI := fun σ H R => tl σ H fun x H1 => (∃ a, x = .ref a ∧ ((∃ xs, SqL K H1 a xs ∧ R (Itl K a) H1) ∨ ∃ xs, SqT K H1 a xs ∧ R (Itt K a) H1)) ∨ ∃ z, x = .str z ∧ R (Its z) H1
theorem pi_seq {tg l : Expr} {tl : TE} (hl : PE X l tl) : PI X tg l (iSeq X.K tl) := by
  refine ⟨fun pins s σ H R I h => thn (hl.run pins s σ H _ I h) fun v s1 ⟨x, H1, I1, r1, q1⟩ => ?_⟩
  rcases q1 with ⟨a, ea, q1⟩ | ⟨z, ez, q⟩
  · subst ea
    cases r1
    have fo : ∀ b ∈ [s1.heap.objs.size], FpOk X pins H1 b := fun b hb => by
      rw [List.mem_singleton.mp hb]
      exact I1.fpOk (Nat.le_refl _) (I1.hok.fresh (Nat.le_refl _))
    rcases q1 with ⟨xs, hq, q⟩ | ⟨xs, hq, q⟩
    · obtain ⟨its, rv, pl, hz⟩ := I1.list hq
      exact wpAny_pyIter_list pl.isList ⟨s1.heap.objs.size, [s1.heap.objs.size], _, _, H1, rfl, I1.kept (t' := s1.toks) (fun b o e => Heap.get?_push_of_some _ e), turn_list a _, ⟨_, Heap.get?_push_size _ rfl, rfl, rfl⟩, fo, q⟩
    · obtain ⟨its, rv, pl, hz⟩ := I1.tuple hq
      exact wpAny_pyIter_tuple (show s1.heap.IsTuple a its.toArray from pl) ⟨s1.heap.objs.size, [s1.heap.objs.size], _, _, H1, rfl, I1.kept (t' := s1.toks) (fun b o e => Heap.get?_push_of_some _ e), turn_tuple a _, ⟨_, Heap.get?_push_size _ rfl, rfl, rfl⟩, fo, q⟩
  · subst ez
    obtain ⟨t, rfl⟩ := r1
    cases ha : z.cps.all (· < 128)
    · exact wpAny_pyIter_wide ha (pi_one (tk := s1.toks) I1 _ (turn_str _ z t "str_iterator" (.inr rfl)) ⟨_, Heap.get?_push_size _ rfl, rfl, rfl⟩ q)
    · exact wpAny_pyIter_ascii ha (pi_one (tk := s1.toks) I1 _ (turn_str _ z t "str_ascii_iterator" (.inl rfl)) ⟨_, Heap.get?_push_size _ rfl, rfl, rfl⟩ q)
def itemsQ (d : PyData) (K : List PyData → Prop) : Prop := match d with
  | .list ds => At ds K
  | .tuple ds => At ds K
  | .str x => At (signsD x) K
  | _ => False
abbrev dItF (f : PyData → (List PyData → Prop) → Prop) (we : DE) (env : List SD) (P : List PyData → List SD → Prop) : Prop := we env fun d env' => f d fun ds => P ds env'
theorem iseq {tg : Expr} {bb : Bool} (he : PE X e (liftE X.K Z we)) : PI X tg e (liftI X.K Z bb (dItF itemsQ we)) := PI.of (pi_seq he) fun σ H R ⟨g, F, env, P, k, w, q⟩ => ⟨g, F, env, _, k, w, fun d env1 v F1 H1 p e1 k1 r1 => by
  unfold itemsQ at p
  split at p
  · obtain ⟨a, xs, rfl, h1, h2⟩ := r1.inv_lst
    exact .inl ⟨a, rfl, .inl ⟨xs, (h1.mono k1.fh).sq, q _ env1 _ F1 H1 p.out e1 k1 (walkD_list h1 h2)⟩⟩
  · obtain ⟨a, xs, rfl, h1, h2⟩ := r1.inv_tup
    exact .inl ⟨a, rfl, .inr ⟨xs, Evl.ex_t k1.fh h1, q _ env1 _ F1 H1 p.out e1 k1 (walkD_tup h1 h2)⟩⟩
  · cases r1.inv_str
    exact .inr ⟨_, rfl, q _ env1 _ F1 H1 p.out e1 k1 (walkD_str _)⟩
  · exact p.elim⟩
/-- zip of two lists, of two tuples -/
def zipD : List PyData → List PyData → List PyData
  | x :: xs, y :: ys => .tuple [x, y] :: zipD xs ys
  | _, _ => []
def zipQ (ds : List PyData) (K : List PyData → Prop) : Prop := match ds with
  | [.list xs, .list ys] => At (zipD xs ys) K
  | [.tuple xs, .tuple ys] => At (zipD xs ys) K
  | _ => False
def qFor {I S : Type} (b : PyData → I → S → (I → S → Prop) → (I → S → Prop) → Prop) (i : I) : List PyData → S → (S → Prop) → Prop
  | [], s, K => K s
  | d :: r, s, K => b d i s (same i fun s => qFor b i r s K) (same i K)
abbrev dForQ {κ I S : Type} (is : List Nat) (dec : List SD → Option (I × S)) (emb : I → S → List SD) (kk : RT → κ) (qb : κ → PyData → I → S → (I → S → Prop) → (I → S → Prop) → Prop) (wi : DI) (E : DEnds) (env : List SD) : Prop :=
  wi env fun items env1 => decP is dec (fun i s => qFor (qb (kk E.rt)) i items s fun s => E.nx (emb i s)) env1
theorem sforQ {κ I S : Type} (is : List Nat) (dec : List SD → Option (I × S)) (emb : I → S → List SD) (kk : RT → κ) (qb : κ → PyData → I → S → (I → S → Prop) → (I → S → Prop) → Prop)
    (hde : ∀ env i s, dec env = some (i, s) → env = emb i s) {tg iter : Expr} {body : List Stmt} {wi : DI} {t : DG} {bb : Bool} (hp : PassesOwn (model X.prog X.w) X.A X.env X.xe) (hc : X.calm = true) (hi : PI X tg iter (liftI X.K Z bb wi)) (hg : PG X tg (liftG X.K Z bb t)) (hb : PSs X body (liftS X.K Z m w))
    (hq : ∀ (R : RT) (d : PyData) (i : I) (s : S) (nx bk : I → S → Prop), qb (kk R) d i s nx bk → t d (emb i s) fun env1 => w { nx := decP is dec nx, ct := decP is dec nx, bk := decP is dec bk, rt := R } env1)
    (hs : ∀ x, foldedSetIterable iter X.env x = pure x := by intro _; rfl) : PS X (.For tg iter body [] pos) (liftS X.K Z m (dForQ is dec emb kk qb wi)) :=
  PS.of (ps_for hp hc hi hg hb hs) fun D σ H ⟨g, F, env, P, k, w0, q⟩ => ⟨g, F, env, _, k, w0, fun items env1 J F1 H1 p e1 k1 ⟨G, Y, wk, hG, hY⟩ => by
    have q := q.ex e1
    obtain ⟨i0, s0, d0, p⟩ := decP_inv p
    have fin : ∀ {env' : List SD} {σ' : L2.St} {F' H' : Hp}, decP is dec (same i0 fun s => P.nx (emb i0 s)) env' → Ex F1 F' → Ok X.K g F' env' σ' H' → D.nx σ' H' := fun {env' σ' F' H'} p e k => by
      obtain ⟨i, s, d, rfl, p⟩ := decP_inv p
      have k2 := k.unS (is := is)
      rw [hde _ _ _ d] at k2
      exact q.nx _ _ _ _ p e k2
    refine for_it wk (fun j σ' H' => ∃ env' F', Ex F1 F' ∧ Ok X.K g F' env' σ' H' ∧ decP is dec (same i0 fun s => qFor (qb (kk P.rt)) i0 (items.drop j) s fun s => P.nx (emb i0 s)) env') ⟨env1, F1, Ex.refl F1, k1, by unfold decP; rw [d0]; exact ⟨rfl, p⟩⟩ (fun i σ' H' _ ⟨env', F', e2, k2, _⟩ => hG H' (e2.trans k2.fh)) (fun j x σ' H' H2 hj ⟨env', F', e2, k2, w2⟩ y => ?_) fun σ' H' ⟨env', F', e2, k2, w2⟩ => ?_
    · obtain ⟨i, s, de, rfl, w3⟩ := decP_inv w2
      have k2 := k2.unS (is := is)
      rw [hde _ _ _ de] at k2
      have hd : items.drop j = items[j] :: items.drop (j + 1) := List.drop_eq_getElem_cons hj
      rw [hd] at w3
      obtain ⟨F3, e3, k3, r3⟩ := k2.yld e2 (hY j H' x H2 items[j] (e2.trans k2.fh) (by simp [hj]) y)
      have e13 := e2.trans e3
      refine ⟨g, F3, _, _, _, k3, r3, hq P.rt _ i s _ _ w3, fun env4 σ4 F4 H4 p4 e4 k4 => ⟨g, F4, env4, _, k4, p4, ?_⟩⟩
      have e14 := e13.trans e4
      exact .mk4 (.mk (fun env5 σ5 F5 H5 p5 e5 k5 => ⟨env5, F5, e14.trans e5, k5, p5⟩) (fun env5 σ5 F5 H5 p5 e5 k5 => fin p5 (e14.trans e5) k5) (fun env5 σ5 F5 H5 p5 e5 k5 => ⟨env5, F5, e14.trans e5, k5, p5⟩) (fun r env5 v σ5 F5 H5 p5 e5 k5 r5 => q.rt r env5 v σ5 F5 H5 p5 (e14.trans e5) k5 r5)) rfl
    · rw [List.drop_length] at w2
      exact fin w2 e2 k2⟩
end
end DL

namespace DL
variable {T : List (PySem.Addr × PySem.Str)} {Z : Zx T}
open PySem PySem.Spec PyProof.Rows L2
open Evl (Ex)

def wipeD (env : List SD) : List Nat → List SD
  | [] => env
  | v :: vs => (wipeD env vs).set v .un
def setAll (σ : L2.St) : List Nat → List V → L2.St
  | i :: is, v :: vs => setAll (σ.set i (some v)) is vs
  | _, _ => σ
def setAllD (env : List SD) : List Nat → List PyData → List SD
  | i :: is, d :: ds => setAllD (env.set i (.dat d)) is ds
  | _, _ => env
theorem wipe_get (σ : L2.St) : ∀ (vs : List Nat) (j : Nat), (wipe σ vs)[j]? = if j ∈ vs then (σ[j]?).map (fun _ => none) else σ[j]?
  | [], j => by simp [wipe]
  | v :: vs, j => by
    unfold wipe
    rw [List.getElem?_set]
    by_cases h : v = j
    · subst h
      rw [if_pos rfl, if_pos List.mem_cons_self, wipe_length]
      by_cases hl : v < σ.length
      · rw [if_pos hl]
        simp [hl]
      · rw [if_neg hl]
        simp [Nat.le_of_not_lt hl]
    · rw [if_neg h, wipe_get σ vs j]
      by_cases hj : j ∈ vs
      · rw [if_pos hj, if_pos (List.mem_cons_of_mem _ hj)]
      · rw [if_neg hj, if_neg (fun z => (List.mem_cons.mp z).elim (fun z => h z.symm) hj)]
theorem wipe_set {σ : L2.St} {vs : List Nat} {i : Nat} {o : Option V} (h : i ∈ vs) : wipe (σ.set i o) vs = wipe σ vs := List.ext_getElem? fun j => by
  rw [wipe_get, wipe_get]
  by_cases hj : j ∈ vs
  · rw [if_pos hj, if_pos hj, List.getElem?_set]
    by_cases e : i = j
    · subst e
      rw [if_pos rfl]
      by_cases hl : i < σ.length
      · simp [hl]
      · rw [if_neg hl]
        simp [Nat.le_of_not_lt hl]
    · rw [if_neg e]
  · have ne : i ≠ j := fun e => by subst e; exact hj h
    rw [if_neg hj, if_neg hj, List.getElem?_set, if_neg ne]
theorem wipe_all {vs : List Nat} : ∀ {is : List Nat} {us : List V} {σ : L2.St}, (∀ i ∈ is, i ∈ vs) → wipe (setAll σ is us) vs = wipe σ vs
  | [], _, _, _ => by simp [setAll]
  | i :: is, [], _, _ => by simp [setAll]
  | i :: is, u :: us, σ, h => by
    unfold setAll
    rw [wipe_all (fun j hj => h j (List.mem_cons_of_mem _ hj)), wipe_set (h i List.mem_cons_self)]
theorem wipe_wipe {vs : List Nat} {σ : L2.St} : wipe (wipe σ vs) vs = wipe σ vs := List.ext_getElem? fun j => by
  rw [wipe_get, wipe_get]
  by_cases hj : j ∈ vs
  · rw [if_pos hj, if_pos hj]
    cases σ[j]? <;> rfl
  · rw [if_neg hj, if_neg hj]
section
variable {K : PySem.W.Frag} {g : Gx Z} {F F' : Hp} {env : List SD} {σ : L2.St} {H : Hp}
theorem noPar_un {env : List SD} {i j : Nat} {r : SD} (h : NoPar env j) (hr : ∀ xs, r ≠ .cel true xs) : NoPar (env.set i r) j := fun xs e => by
  rcases get_set e with ⟨_, q⟩ | ⟨_, q⟩
  · exact hr xs q.symm
  · exact h xs q
theorem noPar_wipe {env : List SD} {j : Nat} (h : NoPar env j) : ∀ vs : List Nat, NoPar (wipeD env vs) j
  | [] => h
  | v :: vs => noPar_un (noPar_wipe h vs) (fun _ z => by cases z)
theorem Ok.wiped (k : Ok K g F env σ H) : ∀ {vs : List Nat}, (∀ v ∈ vs, NoPar env v) → Ok K g F (wipeD env vs) (wipe σ vs) H
  | [], _ => k
  | v :: vs, h => (k.wiped (vs := vs) fun u hu => h u (List.mem_cons_of_mem _ hu)).setU (noPar_wipe (h v List.mem_cons_self) vs)
theorem Ok.setAll : ∀ {is : List Nat} {us : List V} {ds : List PyData} {env : List SD} {σ : L2.St}, Ok K g F env σ H → (∀ i ∈ is, NoPar env i) → DRs K F us ds → Ok K g F (setAllD env is ds) (DL.setAll σ is us) H
  | [], _, _, _, _, k, _, _ => by simpa [DL.setAll, setAllD] using k
  | i :: is, _, _, _, _, k, h, .nil => by simpa [DL.setAll, setAllD] using k
  | i :: is, _, _, _, _, k, h, .cons a b => by
    unfold DL.setAll setAllD
    exact Ok.setAll (k.setD (h i List.mem_cons_self) a) (fun j hj => noPar_un (h j (List.mem_cons_of_mem _ hj)) (fun _ z => by cases z)) b
theorem Ok.unwiped {vs : List Nat} (k : Ok K g F env (wipe σ vs) H) : Ok K g F env σ H := by
  have up : ∀ {i : Nat} {v : V}, (wipe σ vs)[i]? = some (some v) → σ[i]? = some (some v) := fun {i v} e => by
    rw [wipe_get] at e
    by_cases hj : i ∈ vs
    · rw [if_pos hj] at e
      cases q : σ[i]? with
      | none => rw [q] at e; cases e
      | some o => rw [q] at e; cases e
    · rw [if_neg hj] at e
      exact e
  have dn : ∀ {j : Nat} {p : Bool} {ys : List PyData} {a : Addr}, env[j]? = some (.cel p ys) → σ[j]? = some (some (.ref a)) → (wipe σ vs)[j]? = some (some (.ref a)) := fun {j p ys a} e q => by
    obtain ⟨b, _, h1, _⟩ := k.cel j p ys e
    have := up h1
    rw [q] at this
    cases this
    exact h1
  refine ⟨k.len.trans (wipe_length σ vs), k.fh, fun i d e => ?_, fun i p xs e => ?_, fun i j p q xs ys a h1 h2 h3 h4 => k.sep i j p q xs ys a h1 h2 (dn h1 h3) (dn h2 h4), k.pin, k.frame, k.newF, k.oldF, fun a o e => ?_, ?_⟩
  · obtain ⟨v, h1, h2⟩ := k.dat i d e
    exact ⟨v, up h1, h2⟩
  · obtain ⟨a, us, h1, h2⟩ := k.cel i p xs e
    exact ⟨a, us, up h1, h2⟩
  · obtain ⟨z1, z2, z3⟩ := k.prot a o e
    exact ⟨z1, z2, fun j p ys e1 e2 => z3 j p ys e1 (dn e1 e2)⟩
  · obtain ⟨B, h1, h2⟩ := k.dic
    refine ⟨B, fun i w e => let ⟨a, z1, z2⟩ := h1 i w e; ⟨a, up z1, z2⟩, fun i j w w' a b e1 e2 z1 z2 => h2 i j w w' a b e1 e2 ?_ ?_⟩
    · obtain ⟨c, y1, _⟩ := h1 i w e1
      have := up y1
      rw [z1] at this
      cases this
      exact y1
    · obtain ⟨c, y1, _⟩ := h1 j w' e2
      have := up y1
      rw [z2] at this
      cases this
      exact y1
theorem set_same {α : Type} {l : List α} {i : Nat} {x : α} (h : l[i]? = some x) : l.set i x = l := List.ext_getElem? fun j => by
  rw [List.getElem?_set]
  by_cases e : i = j
  · subst e
    rw [if_pos rfl, if_pos (List.getElem?_eq_some_iff.mp h).1, h]
  · rw [if_neg e]
/-- what stood at the slots vs is known again -/
def again (env1 : List SD) : List Nat → List SD → List SD
  | [], env2 => env2
  | v :: vs, env2 => match env1[v]? with
    | some (.dat d) => again env1 vs (env2.set v (.dat d))
    | _ => again env1 vs env2
theorem Ok.again {F1 H1 : Hp} {env1 : List SD} (k1 : Ok K g F1 env1 σ H1) (ex : Ex F1 F) : ∀ {vs : List Nat} {env2 : List SD}, Ok K g F env2 σ H → (∀ v ∈ vs, NoPar env2 v) → Ok K g F (DL.again env1 vs env2) σ H
  | [], _, k, _ => k
  | v :: vs, env2, k, h => by
    unfold DL.again
    split
    · rename_i d e
      obtain ⟨u, h1, h2⟩ := k1.dat v d e
      have k2 := k.setD (h v List.mem_cons_self) (h2.mono ex)
      rw [set_same h1] at k2
      exact Ok.again k1 ex k2 fun j hj => noPar_un (h j (List.mem_cons_of_mem _ hj)) (fun _ z => by cases z)
    · exact Ok.again k1 ex k fun j hj => h j (List.mem_cons_of_mem _ hj)
/-- the cell at D, no name's, protected -/
theorem Ok.hide (k : Ok K g F env σ H) {D : Addr} {vs : List V} (hF : F D = none) (hH : H D = some (.lst vs)) (nw : ∀ (j : Nat) (p : Bool) (ys : List PyData), env[j]? = some (.cel p ys) → σ[j]? ≠ some (some (.ref D))) (hp : g.Pr D = none) : Ok K (g.hid D vs hp) F env σ H :=
  ⟨k.len, k.fh, k.dat, k.cel, k.sep, k.pin, k.frame, k.newF, k.oldF, fun a o e => by
    by_cases z : a = D
    · subst z
      have e' : upd g.Pr a (.lst vs) a = some o := e
      rw [upd_same] at e'
      cases e'
      exact ⟨hH, hF, nw⟩
    · have e' : upd g.Pr D (.lst vs) a = some o := e
      rw [upd_ne z] at e'
      exact k.prot a o e',
    k.dic.keep (Ex.refl F) (fun a xs e n => by
      have ne : a ≠ D := fun z => by rw [z, hH] at e; cases e
      show upd g.Pr D (.lst vs) a = none
      rw [upd_ne ne]
      exact n) fun a xs _ n => ⟨n, rfl⟩⟩
theorem Ok.bare {D : Addr} {vs : List V} (hp : g.Pr D = none) (k : Ok K (g.hid D vs hp) F env σ H) :
    Ok K g F env σ H ∧ F D = none ∧ H D = some (.lst vs) ∧ ∀ (j : Nat) (p : Bool) (ys : List PyData), env[j]? = some (.cel p ys) → σ[j]? ≠ some (some (.ref D)) := by
  obtain ⟨z1, z2, z3⟩ := k.prot D (.lst vs) upd_same
  refine ⟨⟨k.len, k.fh, k.dat, k.cel, k.sep, k.pin, k.frame, k.newF, k.oldF, fun a o e => ?_, (k.dic.keep (Ex.refl F) (fun a xs e n => ?_) fun a xs _ n => ⟨n, rfl⟩)⟩, z2, z1, z3⟩
  · have ne : a ≠ D := fun z => by rw [z, hp] at e; cases e
    exact k.prot a o (show upd g.Pr D (.lst vs) a = some o by rw [upd_ne ne]; exact e)
  · have ne : a ≠ D := fun z => by rw [z, z1] at e; cases e
    have n : upd g.Pr D (.lst vs) a = none := n
    rw [upd_ne ne] at n
    exact n
/-- a cell of no name is written -/
theorem Ok.writeP (k : Ok K g F env σ H) {D : Addr} {o o0 : HO} (hD : H D = some o0) (hn : ∀ φ, o0 ≠ .ext φ) (t1 : ∀ ps, o0 ≠ .tbl ps) (t2 : ∀ q, o0 ≠ LamX.CodeO D q) (hF : F D = none) (h0 : g.H0 D = none) (hp : g.Pr D = none) (nw : ∀ (j : Nat) (p : Bool) (ys : List PyData), env[j]? = some (.cel p ys) → σ[j]? ≠ some (some (.ref D))) : Ok K g F env σ (upd H D o) := by
  refine ⟨k.len, fun a u e => ?_, k.dat, fun i p xs e => ?_, k.sep, k.pin, k.frame.putO hD t1 t2 (fun o e => by rw [h0] at e; cases e), k.newF, k.oldF, fun a u e => ?_, (k.dic.keep (Ex.refl F) (fun _ _ _ z => z) fun a xs e n => ⟨n, upd_ne fun z => ?_⟩)⟩
  · have ne : a ≠ D := fun z => by rw [z, hF] at e; cases e
    rw [upd_ne ne]
    exact k.fh a u e
  · obtain ⟨a, us, h1, h2, h3, h4⟩ := k.cel i p xs e
    have ne : a ≠ D := fun z => by subst z; exact nw i p xs e h1
    exact ⟨a, us, h1, h2, by rw [upd_ne ne]; exact h3, h4⟩
  · obtain ⟨z1, z2, z3⟩ := k.prot a u e
    have ne : a ≠ D := fun z => by rw [z, hp] at e; cases e
    exact ⟨by rw [upd_ne ne]; exact z1, z2, z3⟩
  · subst z
    rw [hD] at e
    exact hn xs (Option.some.inj e)
end

inductive CT where
  | one (i : Nat)
  | tup (is : List Nat)
def CT.slots : CT → List Nat
  | .one i => [i]
  | .tup is => is
def gNs : List Nat → TGs
  | [] => gNil
  | i :: is => gCons (gName i) (gNs is)
/-- the target's reading -/
def CT.g (K : PySem.W.Frag) : CT → TG
  | .one i => gName i
  | .tup is => gTup K is.length (gNs is)
def setK : List Nat → List PyData → List SD → (List SD → Prop) → Prop
  | [], ds, env, P => nilQ ds (P env)
  | i :: is, ds, env, P => consQ ds fun d r => setK is r (env.set i (.dat d)) P
theorem setK_inv : ∀ {is : List Nat} {ds : List PyData} {env : List SD} {P : List SD → Prop}, setK is ds env P → ds.length = is.length ∧ P (setAllD env is ds)
  | [], ds, env, P, h => by
    obtain ⟨rfl, h⟩ := nilQ_inv h
    exact ⟨rfl, h⟩
  | i :: is, ds, env, P, h => by
    obtain ⟨d, r, rfl, h⟩ := consQ_inv h
    obtain ⟨e, h⟩ := setK_inv (is := is) h
    exact ⟨by simp [e], h⟩
def CT.d : CT → DG
  | .one i => fun x env P => P (env.set i (.dat x))
  | .tup is => fun x env P => tupQ x fun ds => setK is ds env P
theorem gNs_ok : ∀ {is : List Nat} {vs : List V} {σ : L2.St} {H : Hp} {Q : L2.St → Hp → Prop}, vs.length = is.length → Q (setAll σ is vs) H → gNs is vs σ H Q
  | [], [], σ, H, Q, _, h => ⟨rfl, by simpa [setAll] using h⟩
  | [], _ :: _, _, _, _, e, _ => by simp at e
  | _ :: _, [], _, _, _, e, _ => by simp at e
  | i :: is, v :: vs, σ, H, Q, e, h => ⟨v, vs, rfl, gNs_ok (by simpa using e) (by unfold setAll at h; exact h)⟩
/-- whether the target is a tuple of names -/
def CT.isT : CT → Bool
  | .one _ => false
  | .tup _ => true
theorem CT.ok {K : PySem.W.Frag} {g : Gx Z} {F H : Hp} {env : List SD} {σ : L2.St} {t : CT} {x : V} {d : PyData} {P : List SD → Prop} {Q : L2.St → Hp → Prop} (k : Ok K g F env σ H) (hn : ∀ i ∈ t.slots, NoPar env i) (r : DRw K t.isT F x d) (w : t.d d env P)
    (q : ∀ env' σ', P env' → Ok K g F env' σ' H → (∃ us, σ' = setAll σ t.slots us) → Q σ' H) : t.g K x σ H Q := by
  cases t with
  | one i => exact q _ _ w (k.setD (hn i (List.mem_singleton.mpr rfl)) r.non) ⟨[x], by simp [CT.slots, setAll]⟩
  | tup is =>
    obtain ⟨ds, rfl, w⟩ := tupQ_inv w
    have w := setK_inv w
    obtain ⟨a, xs, rfl, h1, h2⟩ := r.tup
    exact ⟨a, xs, rfl, Evl.ex_t k.fh h1, h2.length.trans w.1, gNs_ok (h2.length.trans w.1) (q _ _ w.2 (k.setAll hn h2) ⟨xs, rfl⟩)⟩
def decQ {I S : Type} (dec : List SD → Option (I × S)) (N : I → S → Prop) (env : List SD) : Prop := match dec env with
  | some (i, s) => N i s
  | none => False
theorem decQ_inv {I S : Type} {dec : List SD → Option (I × S)} {N : I → S → Prop} {env : List SD} (h : decQ dec N env) : ∃ i s, dec env = some (i, s) ∧ N i s := by
  unfold decQ at h
  split at h
  · exact ⟨_, _, ‹_›, h⟩
  · exact h.elim
def qLc {I S : Type} (b : PyData → I → S → (I → S → Prop) → (PyData → I → S → Prop) → Prop) (i : I) : List PyData → List PyData → S → (List PyData → S → Prop) → Prop
  | [], acc, s, K => K acc s
  | d :: r, acc, s, K => b d i s (same i fun s => qLc b i r acc s K) fun y => same i fun s => acc.length < 100000 ∧ qLc b i r (acc ++ [y]) s K
abbrev dLcQ {I S : Type} (dec : List SD → Option (I × S)) (emb : I → S → List SD) (qb : PyData → I → S → (I → S → Prop) → (PyData → I → S → Prop) → Prop) (wi : DI) (t : CT) (env : List SD) (P : SD → List SD → Prop) : Prop :=
  wi env fun items env1 => bIf (t.slots.all (noPar env1)) (decQ dec (fun i s => qLc qb i items [] s fun acc s => bIf (t.slots.all (noPar (emb i s))) (P (.cel false acc) (again env1 t.slots (emb i s))) False) (wipeD env1 t.slots)) False
def LcHyp {I S : Type} (dec : List SD → Option (I × S)) (emb : I → S → List SD) (qb : PyData → I → S → (I → S → Prop) → (PyData → I → S → Prop) → Prop) (t : CT) (c : DT) (we : DE) : Prop :=
  ∀ (d : PyData) (i : I) (s : S) (sk : I → S → Prop) (yd : PyData → I → S → Prop), qb d i s sk yd → t.d d (emb i s) fun env1 => c env1 fun b env2 => bIf b
    (we env2 fun y env3 => bIf (t.slots.all (noPar env3)) (decQ dec (yd y) (wipeD env3 t.slots)) False)
    (bIf (t.slots.all (noPar env2)) (decQ dec sk (wipeD env2 t.slots)) False)
theorem noPar_all {env : List SD} {vs : List Nat} (h : vs.all (noPar env) = true) : ∀ v ∈ vs, NoPar env v := fun v hv => noPar_of (List.all_eq_true.mp h v hv)
theorem lift_lc {K : PySem.W.Frag} {I S : Type} {dec : List SD → Option (I × S)} {emb : I → S → List SD} {qb : PyData → I → S → (I → S → Prop) → (PyData → I → S → Prop) → Prop} (hde : ∀ env i s, dec env = some (i, s) → env = emb i s)
    {wi : DI} {t : CT} {c : DT} {we : DE} (hq : LcHyp dec emb qb t c we) {σ : L2.St} {H : Hp} {Q : VK} (h : liftX K Z (dLcQ dec emb qb wi t) σ H Q) : tLc (liftI K Z t.isT wi) (t.g K) (liftT K Z c) (liftE K Z we) t.slots σ H Q := by
  obtain ⟨g, F, env, P, k, w, q⟩ := h
  refine ⟨g, F, env, _, k, w, fun items env1 J F1 H1 p e1 k1 ⟨G, Y, wk, hG, hY⟩ D hD => ?_⟩
  obtain ⟨np, p⟩ := bIf_and p
  obtain ⟨i0, s0, d0, p⟩ := decQ_inv p
  have kw := k1.wiped (noPar_all np)
  obtain ⟨kn, rn⟩ := kw.newCell hD (vs := []) (xs := []) .nil
  refine lc_it wk (fun j H' => ∃ env' F' acc, Ex F1 F' ∧ Ok K g F' env' (wipe σ t.slots) H' ∧ ResOk K g F' env' (wipe σ t.slots) H' (.ref D) (.cel false acc) ∧ (∀ v ∈ t.slots, NoPar env' v) ∧
      decQ dec (same i0 fun s => qLc qb i0 (items.drop j) acc s fun acc s => bIf (t.slots.all (noPar (emb i0 s))) (P (.cel false acc) (again env1 t.slots (emb i0 s))) False) env')
    ⟨_, F1, [], Ex.refl F1, kn, rn, fun v hv => noPar_wipe (noPar_all np v hv) _, by unfold decQ; rw [d0]; exact ⟨rfl, p⟩⟩ (fun i H' _ ⟨env', F', acc, e2, k2, _⟩ => hG H' (e2.trans k2.fh)) (fun j x H' H2 hi ⟨env', F', acc, e2, k2, r2, n2, w2⟩ y => ?_) fun H' ⟨env', F', acc, e2, k2, r2, n2, w2⟩ => ?_
  · obtain ⟨i, s, de, rfl, w3⟩ := decQ_inv w2
    obtain rfl := hde _ _ _ de
    rw [List.drop_eq_getElem_cons hi] at w3
    have w2 := hq _ _ _ _ _ w3
    obtain ⟨D', vsA, eD, hF, hHD, rA, h0, hpr, nw⟩ := r2
    cases eD
    have kh := k2.hide hF hHD nw hpr
    obtain ⟨F3, e3, k3, r3⟩ := kh.yld e2 (hY j H' x H2 items[j] (e2.trans k2.fh) (by simp [hi]) y)
    refine CT.ok k3 n2 r3 w2 fun env4 σ4 p4 k4 ⟨us, hσ⟩ => ?_
    have hw : wipe σ4 t.slots = wipe σ t.slots := by rw [hσ, wipe_all (fun i hi => hi), wipe_wipe]
    refine ⟨hw, _, F3, env4, _, k4, p4, fun b env5 F5 H5 p5 e5 k5 => ?_⟩
    cases b with
    | false =>
      refine iteF ?_
      have p5 := bIf_and p5
      obtain ⟨k6, z1, z2, z3⟩ := Ok.bare hpr k5
      have k7 := k6.wiped (noPar_all p5.1)
      rw [hw] at k7
      refine ⟨_, F5, acc, (e2.trans e3).trans e5, k7, ?_, fun v hv => noPar_wipe (noPar_all p5.1 v hv) _, p5.2⟩
      refine ⟨D, vsA, rfl, z1, z2, rA.mono (e3.trans e5), h0, hpr, fun j p ys ej ez => ?_⟩
      rw [← hw] at ez
      exact wiped_cell z3 ej ez
    | true =>
      refine iteT ⟨_, F5, env5, _, k5, p5, fun d env6 v F6 H6 p6 e6 k6 r6 => ?_⟩
      obtain ⟨np6, p6⟩ := bIf_and p6
      obtain ⟨i6, s6, d6, hi6, p6⟩ := decQ_inv p6
      obtain ⟨k7, z1, z2, z3⟩ := Ok.bare hpr k6
      refine ⟨vsA, z2, by rw [rA.length]; exact Evl.sz_lt p6.1, ?_⟩
      have k8 := k7.wiped (noPar_all np6)
      have z4 : ∀ (j : Nat) (p : Bool) (ys : List PyData), (wipeD env6 t.slots)[j]? = some (.cel p ys) → (wipe σ4 t.slots)[j]? ≠ some (some (.ref D)) := fun j p ys ej ez => wiped_cell z3 ej ez
      have k9 := k8.writeP (o := .lst (vsA ++ [v])) z2 (fun _ z => by cases z) (fun _ z => by cases z) (fun _ z => codeO_lst z.symm) z1 h0 hpr z4
      rw [hw] at k9 z4
      exact ⟨_, F6, acc ++ [d], ((e2.trans e3).trans e5).trans e6, k9, ⟨D, vsA ++ [v], rfl, z1, upd_same, (rA.mono ((e3.trans e5).trans e6)).append (.one r6), h0, hpr, z4⟩, fun v hv => noPar_wipe (noPar_all np6 v hv) _, by unfold decQ; rw [d6]; exact ⟨hi6, p6.2⟩⟩
  · obtain ⟨i, s, de, rfl, w3⟩ := decQ_inv w2
    obtain rfl := hde _ _ _ de
    rw [List.drop_length] at w3
    have w2 := bIf_and w3
    have k3 := k2.unwiped
    have k4 := Ok.again k1 e2 k3 (noPar_all w2.1)
    obtain ⟨D', vsA, eD, hF, hHD, rA, h0, hpr, nw⟩ := r2
    cases eD
    refine q _ _ _ F' H' w2.2 (e1.trans e2) k4 ⟨D, vsA, rfl, hF, hHD, rA, h0, hpr, fun j p ys ej ez => ?_⟩
    have ej' := again_cell ej
    obtain ⟨a, _, b1, _⟩ := k3.cel j p ys ej'
    obtain ⟨a2, _, b2, _⟩ := k2.cel j p ys ej'
    have b3 := wipe_some b2
    rw [ez] at b1
    cases b1
    rw [ez] at b3
    cases b3.1
    exact nw j p ys ej' b2
where
  wiped_cell {env : List SD} {σ : L2.St} {D : Addr} {vs : List Nat} (z : ∀ (j : Nat) (p : Bool) (ys : List PyData), env[j]? = some (.cel p ys) → σ[j]? ≠ some (some (.ref D))) {j : Nat} {p : Bool} {ys : List PyData} (e : (wipeD env vs)[j]? = some (.cel p ys)) (e2 : (wipe σ vs)[j]? = some (some (.ref D))) : False := by
    have h1 := (wipe_some e2).1
    have : ∀ vs : List Nat, (wipeD env vs)[j]? = some (.cel p ys) → env[j]? = some (.cel p ys) := fun vs => by
      induction vs with
      | nil => exact id
      | cons v vs ih =>
        intro h
        rcases get_set h with ⟨_, q⟩ | ⟨_, q⟩
        · cases q
        · exact ih q
    exact z j p ys (this vs e) h1
  again_cell {env1 : List SD} {vs : List Nat} {env2 : List SD} {j : Nat} {p : Bool} {ys : List PyData} (e : (again env1 vs env2)[j]? = some (.cel p ys)) : env2[j]? = some (.cel p ys) := by
    induction vs generalizing env2 with
    | nil => exact e
    | cons v vs ih =>
      unfold again at e
      split at e
      · have := ih e
        rcases get_set this with ⟨_, q⟩ | ⟨_, q⟩
        · cases q
        · exact q
      · exact ih e
section
variable {X : Cx} {elt tg iter : Expr} {ifs : List Expr} {scope : Scope} {own : List (Str × Nat)} {pos : Pos} {wi : DI} {t : CT} {c : DT} {we : DE} {m : Nat} {I S : Type} {dec : List SD → Option (I × S)} {emb : I → S → List SD} {qb : PyData → I → S → (I → S → Prop) → (PyData → I → S → Prop) → Prop}
abbrev dYes (env : List SD) (P : Bool → List SD → Prop) : Prop := P true env
theorem tyes : PTs X [] (liftT X.K Z dYes) := ⟨fun pins s σ H Q I ⟨g, F, env, P, k, w, q⟩ => pts_nil.run pins s σ H Q I (q true env F H w (Ex.refl F) k)⟩
theorem tif1 {e : Expr} (h : PT X e (liftT X.K Z c)) : PTs X [e] (liftT X.K Z c) := pts_one h
/-- [elt for tg in iter if ..] -/
theorem dlc (own : List (Str × Nat)) (t : CT) (hde : ∀ env i s, dec env = some (i, s) → env = emb i s) (hc : X.calm = true) (hN : X.N.Nodup) (hi : PI X tg iter (liftI X.K Z t.isT wi)) (ok : BlkOk X.N X.env.scope scope own)
    (hg : ∀ (s : Shared) (H : Hp) (C : Addr) (cl : List (Str × Addr)) (fp : List Addr), PG (X.blk s H scope (compEnvC scope cl C X.env) fp) tg (t.g X.K)) (ht : ∀ (s : Shared) (H : Hp) (C : Addr) (cl : List (Str × Addr)) (fp : List Addr), PTs (X.blk s H scope (compEnvC scope cl C X.env) fp) ifs (liftT X.K Z c))
    (he : ∀ (s : Shared) (H : Hp) (C : Addr) (cl : List (Str × Addr)) (fp : List Addr), PE (X.blk s H scope (compEnvC scope cl C X.env) fp) elt (liftE X.K Z we)) (hq : LcHyp dec emb qb t c we) (hsl : t.slots = own.map (·.2) := by rfl) (hs : ∀ x, foldedSetIterable iter X.env x = pure x := by intro _; rfl) :
    PE X (.ListComp elt [⟨tg, iter, ifs, 0⟩] scope pos) (liftX X.K Z (dLcQ dec emb qb wi t)) := PE.of (pe_lc hc hN hi ok hg ht he hs) fun σ H Q h => by
  have h2 := lift_lc hde hq h
  rw [hsl] at h2
  exact h2
/-- name = [elt for tg in iter if ..] -/
theorem ssetLc (i : Nat) (own : List (Str × Nat)) (t : CT) (hde : ∀ env i s, dec env = some (i, s) → env = emb i s) {y : Str} {py spos : Pos} (hc : X.calm = true) (hN : X.N.Nodup) (hi : PI X tg iter (liftI X.K Z t.isT wi)) (ok : BlkOk X.N X.env.scope scope own)
    (hg : ∀ (s : Shared) (H : Hp) (C : Addr) (cl : List (Str × Addr)) (fp : List Addr), PG (X.blk s H scope (compEnvC scope cl C X.env) fp) tg (t.g X.K)) (ht : ∀ (s : Shared) (H : Hp) (C : Addr) (cl : List (Str × Addr)) (fp : List Addr), PTs (X.blk s H scope (compEnvC scope cl C X.env) fp) ifs (liftT X.K Z c))
    (he : ∀ (s : Shared) (H : Hp) (C : Addr) (cl : List (Str × Addr)) (fp : List Addr), PE (X.blk s H scope (compEnvC scope cl C X.env) fp) elt (liftE X.K Z we)) (hq : LcHyp dec emb qb t c we) (hsw : swapsWith (.ListComp elt [⟨tg, iter, ifs, 0⟩] scope pos) (some (.Name y py)) spos.line X.env = pure true)
    (hsl : t.slots = own.map (·.2) := by rfl) (hy : X.N[i]? = some y := by rfl) (hyl : X.env.scope.names.lookup y = some .local := by rfl) (hs : ∀ x, foldedSetIterable iter X.env x = pure x := by intro _; rfl) :
    PS X (.Assign [.Name y py] (.ListComp elt [⟨tg, iter, ifs, 0⟩] scope pos) spos) (liftS X.K Z m (dSet i (dLcQ dec emb qb wi t))) := PS.of (ps_setLc hc hN hy hyl hsw hi ok hg ht he hs) fun D σ H ⟨g, F, env, P, k, w, q⟩ => by
  have h2 : liftX X.K Z (dLcQ dec emb qb wi t) σ H fun v H1 => D.nx (σ.set i (some v)) H1 := ⟨g, F, env, _, k, w, fun r env1 v F1 H1 p e1 k1 r1 => q.nx _ _ F1 H1 (bIf_and p).2 e1 (k1.setR (bIf_and p).1 (res_own r1) own_ne)⟩
  have h3 := lift_lc hde hq h2
  rw [hsl] at h3
  exact h3
end
end DL

namespace DL
variable {T : List (PySem.Addr × PySem.Str)} {Z : Zx T}
open PySem PySem.Spec PyProof.Rows L2
open Evl (Ex)

section
variable {K : PySem.W.Frag} {F H : Hp} {vs : List V} {as : List SD}
/-- where the cells handed in stand -/
def cellsAt (vs : List V) (as : List SD) (i : Nat) : Option Addr := match as[i]?, vs[i]? with
  | some (.cel _ _), some (.ref a) => some a
  | _, _ => none
theorem cellsAt_of {i : Nat} {p : Bool} {xs : List PyData} {a : Addr} (h1 : as[i]? = some (.cel p xs)) (h2 : vs[i]? = some (.ref a)) : cellsAt vs as i = some a := by
  unfold cellsAt
  rw [h1, h2]
theorem cellsAt_inv {i : Nat} {a : Addr} (h : cellsAt vs as i = some a) : ∃ p xs, as[i]? = some (.cel p xs) ∧ vs[i]? = some (.ref a) := by
  unfold cellsAt at h
  split at h
  · rename_i p xs b h1 h2
    cases h
    exact ⟨p, xs, h1, h2⟩
  · cases h
def entryZ (T : List (Addr × Str)) (P : Program) (w : World) (F H : Hp) (vs : List V) (as : List SD) : Zx T := ⟨F, H, cellsAt vs as, fun _ => none, P, w⟩
def entryG (T : List (Addr × Str)) (P : Program) (w : World) (F H : Hp) (vs : List V) (as : List SD) : Gx (entryZ T P w F H vs as) := ⟨fun _ => none, fun _ _ h => h, fun _ _ h => by cases h⟩
theorem start_get {N : List Str} {i : Nat} {v : V} (h : vs[i]? = some v) : (start N vs)[i]? = some (some v) := by
  unfold L2.start
  have hi : i < vs.length := (List.getElem?_eq_some_iff.mp h).1
  rw [List.getElem?_append_left (by simpa using hi), List.getElem?_map, h]
  rfl
theorem args_get {m i : Nat} {r : SD} (h : (as ++ List.replicate m SD.un)[i]? = some r) (hr : r ≠ .un) : as[i]? = some r := by
  by_cases hi : i < as.length
  · rwa [List.getElem?_append_left hi] at h
  · rw [List.getElem?_append_right (by omega), List.getElem?_replicate] at h
    split at h
    · cases h
      exact absurd rfl hr
    · cases h
theorem entry_ok {N ps : List Str} (ha : ArgsOk T K F H vs as) (hl : as.length = ps.length) (hN : ps.length ≤ N.length) {P : Program} {w : World} : Ok K (entryG T P w F H vs as) F (as ++ List.replicate (N.length - ps.length) .un) (start N vs) H where
  len := by
    unfold L2.start
    have := ha.len
    simp
    omega
  fh := ha.fh
  dat := fun i d e => by
    obtain ⟨v, h1, h2⟩ := ha.dat i d (args_get e (fun z => by cases z))
    exact ⟨v, start_get h1, h2⟩
  cel := fun i p xs e => by
    have e := args_get e (fun z => by cases z)
    obtain ⟨rfl, a, us, h1, h2, h3, h4⟩ := ha.cel i p xs e
    exact ⟨a, us, start_get h1, h2, h3, h4, fun _ => cellsAt_of e h1, fun z => by cases z⟩
  sep := fun i j p q xs ys a e1 e2 h1 h2 => by
    have e1 := args_get e1 (fun z => by cases z)
    have e2 := args_get e2 (fun z => by cases z)
    obtain ⟨_, b, _, b1, _⟩ := ha.cel i p xs e1
    obtain ⟨_, c, _, c1, _⟩ := ha.cel j q ys e2
    rw [start_get b1] at h1
    rw [start_get c1] at h2
    cases h1
    cases h2
    exact ha.sep i j p q xs ys _ e1 e2 b1 c1
  pin := fun i a e => by
    obtain ⟨p, xs, h1, h2⟩ := cellsAt_inv e
    obtain ⟨rfl, _⟩ := ha.cel i p xs h1
    refine ⟨xs, ?_⟩
    rw [List.getElem?_append_left (List.getElem?_eq_some_iff.mp h1).1]
    exact h1
  frame := Frm.refl ha.tab
  newF := fun a o e => .inl e
  oldF := ⟨Ex.refl F, ha.nt⟩
  prot := fun a o e => by cases e
  dic := DicsOk.none fun i w e => ha.nod i w (args_get e (fun z => by cases z))
theorem post_of {P : Program} {w : World} {env : List SD} {σ : L2.St} {F' H' : Hp} {v : V} {r : SD} {n : Nat} (k : Ok K (entryG T P w F H vs as) F' env σ H') (hn : ∀ (i : Nat) (p : Bool) (xs : List PyData), as[i]? = some (.cel p xs) → i < n) (hr : ResOk K (entryG T P w F H vs as) F' env σ H' v r) : PostOk T K F H vs as F' H' (env.take n) v r where
  ex := k.oldF.1
  nt := k.oldF.2
  fh := k.fh
  newF := k.newF
  frame := k.frame.weak fun a o e n i z => by
    obtain ⟨p, xs, h1, h2⟩ := cellsAt_inv z
    exact n i p xs h1 h2
  cel := fun i p xs a h1 h2 => by
    have e : (entryG T P w F H vs as).A0 i = some a := cellsAt_of h1 h2
    obtain ⟨ys, h3⟩ := k.pin i a e
    obtain ⟨b, us, _, c2, c3, c4, c5, _⟩ := k.cel i true ys h3
    have c5 := c5 rfl
    rw [e] at c5
    cases c5
    refine ⟨ys, us, ?_, c2, c3, c4⟩
    rw [List.getElem?_take_of_lt (hn _ _ _ h1)]
    exact h3
  res := by
    cases r with
    | un => exact hr
    | dat d => exact hr
    | cel b xs =>
      obtain ⟨a, us, h1, h2, h3, h4, h5, _⟩ := hr
      exact ⟨a, us, h1, h2, h3, h4, h5⟩
    | dic kvs => exact hr.elim
end

section
variable {P : Program} {w : World} {K : PySem.W.Frag} {mg : Str → Option Value} {base : Heap}
/-- the ends of a def's body -/
def defEnds (m : Nat) (Q : SD → List SD → Prop) : DEnds := { nx := fun env => Q (.dat .none) (env.take m), rt := Q }
/-- cells stand ahead of place m alone -/
def CelsIn (m : Nat) (S : DSp) : Prop := ∀ as Q, S as Q → ∀ (i : Nat) (p : Bool) (xs : List PyData), as[i]? = some (.cel p xs) → i < m
/-- a def of the text, by its body read as data -/
theorem dfn (m : Nat) {x qual : Str} {st : Stmt} {f : Addr} {fd : FuncData} {N ps : List Str} {k : Nat} {S : DSp} (Fn : Fun K x qual st f fd) (sc : FnScope N ps (defScope st)) (len : ∀ as Q, S as Q → as.length = ps.length) (cels : CelsIn m S)
    (hbody : ∀ {Z : Zx T} (cdv : Value) (A : Around) (outer : List Env) (s : Shared) (H : Hp), Room k (A.deeper (envOfC qual (defScope st) s.heap.objs.size f cdv)) → (A.deeper (envOfC qual (defScope st) s.heap.objs.size f cdv)).guards = some [] →
      ∃ t : DS, PSs (cxOf CX0 P w K mg base N qual (defScope st) f cdv A outer s H E0).nox (defBody st) (liftS K Z m t) ∧
        ∀ as Q, S as Q → t (defEnds m Q) (as ++ List.replicate (N.length - ps.length) .un)) : FnG P w K mg base T (k + 1) f fd ps S := by
  obtain ⟨oc, od, kV, doc, pm, an, cdv, ct, osl, rfl, lk, hcd⟩ := Fn.ex
  refine ⟨len, fun A outer s H args us vs Q hr hg e0 hb rv ⟨F0, as, PP, ha, hS, hQ⟩ => ?_⟩
  have hl : vs.length = ps.length := ha.len.symm.trans (len as PP hS)
  have hpl : ps.length ≤ N.length := by
    have := congrArg List.length sc.pre
    rw [List.length_take] at this
    omega
  have KX : K.In s.heap := e0.mod.kin.keeps fun b o e => (e0.bs b o e).1
  refine codeAny_call_function hr.depth (KX _ _ lk) rfl sc.co sc.gen rfl (PySem.W.codeRec_of KX hcd) (hb _ _ _ _ (wpAny_newFunctionEnv_cells sc.kind (fun ⟨n, v⟩ hy => ?_) fun env he s1 x => ?_))
  · rcases sc.par n (List.of_mem_zip hy).1 with q | q
    · exact .inl q
    · exact .inr ⟨q, PySem.W.cellsFrom_some _ _ _ (.inl q)⟩
  · subst he
    obtain ⟨t, ht, hq⟩ := hbody (Z := entryZ T P w F0 H vs as) cdv A outer s H (hr.deeper _) hg
    have I : Inv (cxOf CX0 P w K mg base N qual (defScope st) f cdv A outer s H E0) [] (start N vs) H s1 := inv_start sc hr.hd e0 hl rv x
    refine ⟨(e0.mod.nolimit.keeps fun b o e => (e0.bs b o e).1).keeps x.toInCall.keep, codeAny_func (wpAny_mono (ht.nox.run [] s1 (start N vs) H { nx := fun _ H' => Q .non H', rt := Q } I ?_) (fun fl s' hs => ?_) fun e s' hs => hs)⟩
    · have al : as.length = ps.length := len as PP hS
      refine ⟨entryG T P w F0 H vs as, F0, _, _, entry_ok ha al hpl, hq as PP hS, ?_⟩
      exact .mk4 (.mk (fun env' σ' F' H' p _ k' => hQ _ _ _ _ _ p (post_of k' (cels _ _ hS) .non)) (fun _ _ _ _ p => p.elim) (fun _ _ _ _ p => p.elim) (fun r env' v σ' F' H' p _ k' r' => hQ _ _ _ _ _ p (post_of k' (cels _ _ hS) r'))) rfl
    · have fin : ∀ {σ' : L2.St} {H' : Hp} {v : V} {u : Value}, Inv (cxOf CX0 P w K mg base N qual (defScope st) f cdv A outer s H E0) [] σ' H' s' → RelV v u → Q v H' → CE outer P w H s Q u s' :=
        fun {σ' H' v u} J r q => ⟨v, H', J.os, J.bare, J.base, J.hok, r, q⟩
      match fl, hs with
      | .ret u, ⟨v, σ', H', J, r, q⟩ => exact fin J r q
      | .next, ⟨σ', H', J, q⟩ => exact fin (v := V.non) (u := Value.none) J rfl q
      | .brk, ⟨_, _, _, q⟩ => exact q.elim
      | .cont, ⟨_, _, _, q⟩ => exact q.elim
/-- what is asked of a law's def: of a list of the script's numbers it tells True -/
def lawS (n : Nat) : DSp := fun as Q => match as with
  | [.dat (.list ds)] => (∃ ns : List Int, ds = ns.map .int ∧ ns.length ≤ n) ∧ ∀ as', Q (.dat (.bool true)) as'
  | _ => False
theorem drs_ints {F : Hp} : ∀ ns : List Int, DRs K F (ns.map V.int) (ns.map PyData.int)
  | [] => .nil
  | n :: ns => .cons (.int n) (drs_ints ns)
/-- the modules' dict stands -/
def SysD (h : Heap) : Prop := ∃ o es ep, h.get? sysModules = some o ∧ o.data = .dict es ep
class SysB (base : Heap) : Prop where
  out : SysD base
end
end DL

namespace DL
variable {T : List (PySem.Addr × PySem.Str)} {Z : Zx T}
open PySem PySem.Spec PyProof.Rows L2
open Evl (Ex)

/-- a def of the top that keeps its promise -/
structure Dn (P : Program) (w : World) (K : PySem.W.Frag) (mg : Str → Option Value) (base : Heap) (T : List (Addr × Str)) (x : Str) (k : Nat) (ps : List Str) (S : DSp) : Prop where
  ex : ∃ fd, FnG P w K mg base T k (He.ga K x) fd ps S ∧ Binds K fd ps []
  glo : mg x = some (.ref (He.ga K x))
  kp : PySem.W.keepIn K (.ref (He.ga K x)) = true
/-- what the head says of the top -/
structure Top (fa : List He.Fa) (fn : List He.FnD) (K : PySem.W.Frag) (mg : Str → Option Value) : Prop where
  says : He.SaysE fa fn K
  ns : ∃ h, K.In h ∧ h.Ns mainGlobals mg
section
variable {fa : List He.Fa} {fn : List He.FnD} {K : PySem.W.Frag} {mg : Str → Option Value}
theorem Top.glo (T : Top fa fn K mg) (x : Str) (i : Nat) (h : fa[i]? = some (.glo x) := by rfl) : mg x = some (.ref (He.ga K x)) := by
  obtain ⟨hp, h1, h2⟩ := T.ns
  exact He.glo_ok h1 h2 (T.says.fact i h)
theorem Top.free (T : Top fa fn K mg) (x : Str) (i : Nat) (h : fa[i]? = some (.free x) := by rfl) : mg x = none := by
  obtain ⟨hp, h1, h2⟩ := T.ns
  exact He.free_ok h1 h2 (T.says.fact i h)
theorem Top.int (T : Top fa fn K mg) (x : Str) (n : Int) (i : Nat) (h : fa[i]? = some (.int x n) := by rfl) : ∃ t, mg x = some (.int n t) := by
  obtain ⟨hp, h1, h2⟩ := T.ns
  exact He.int_ok h1 h2 (T.says.fact i h)
theorem Top.keep (T : Top fa fn K mg) (x : Str) (i : Nat) (h : fa[i]? = some (.keep x) := by rfl) : PySem.W.keepIn K (.ref (He.ga K x)) = true := He.keep_ok (T.says.fact i h)
theorem Top.fun_ (T : Top fa fn K mg) (x : Str) (st : Stmt) (i j : Nat) (h : fn[i]? = some ⟨(x, none), x, x, defArgs st, defBody st, defScope st⟩ := by rfl) (hk : fa[j]? = some (.keep x) := by rfl) :
    ∃ kV doc pm an cdv ct, Fun K x x st (He.ga K x) (PySem.W.fnOf x x (defArgs st) (defBody st) (defScope st) .none kV doc pm an cdv ct) := by
  obtain ⟨oc, od, osl, kV, doc, pm, an, cdv, ct, h1, h2⟩ := T.says.def_ i h
  exact ⟨kV, doc, pm, an, cdv, ct, fun_mk h1 h2 (T.keep x j hk)⟩
/-- a module's whole number -/
theorem dnum {X : Cx} {x : Str} {n : Int} {pos : Pos} (hm : ∃ t, X.mg x = some (.int n t)) (hg : Gl X x := by rfl) (hdb : (x == ("__debug__" : Str)) = false := by decide) : PE X (.Name x pos) (liftE X.K Z (dC (.int n))) := by
  obtain ⟨t, h⟩ := hm
  exact dglob (v := .int n) h ⟨t, rfl⟩ (fun _ => .int n) hg hdb
end
section
variable {X : Cx} {k : Nat} {ps : List Str} {S : DSp} {x : Str} {p pos : Pos} {e : Expr} {es : List Expr} {was : DA}
theorem dcn (D : Dn X.prog X.w X.K X.mg X.base T x k ps S) (hr : Room k X.A) (hA : X.A.guards = some [])
    (ha : PA X (e :: es) (liftA X.K Z was)) (hg : Gl X x := by rfl) (hdb : (x == ("__debug__" : Str)) = false := by decide)
    (he : starEach (e :: es) X.env = (false, eval e X.env) :: starEach es X.env := by rfl) (hpl : (backTo pos (starEach es X.env)).any (·.1) = false := by rfl) : PE X (.Call (.Name x p) (e :: es) [] pos) (liftX X.K Z (dCall S was)) := by
  obtain ⟨fd, h1, h2⟩ := D.ex
  exact dcall h1 hr hA D.glo D.kp h2 ha hg hdb he hpl
theorem dcnC (i : Nat) {y : Str} {p0 : Pos} (D : Dn X.prog X.w X.K X.mg X.base T x k ps S) (hr : Room k X.A) (hA : X.A.guards = some [])
    (ha : PA X es (liftA X.K Z was)) (hN : X.N[i]? = some y := by rfl) (hv : Vis X.env.scope y := by first | exact Or.inl rfl | exact Or.inr (Or.inl rfl) | exact Or.inr (Or.inr rfl)) (hd : (y == ("__debug__" : Str)) = false := by decide)
    (hcd : (y == ("__classdict__" : Str)) = false := by decide) (hg : Gl X x := by rfl) (hdb : (x == ("__debug__" : Str)) = false := by decide)
    (he : starEach (.Name y p0 :: es) X.env = (false, eval (.Name y p0) X.env) :: starEach es X.env := by rfl) (hpl : (backTo pos (starEach es X.env)).any (·.1) = false := by rfl) :
    PE X (.Call (.Name x p) (.Name y p0 :: es) [] pos) (liftX X.K Z (dCallC S i was)) := by
  obtain ⟨fd, h1, h2⟩ := D.ex
  exact dcallC i h1 hr hA D.glo D.kp h2 ha hN hv hd hcd hg hdb he hpl
end
theorem sysB_of {h : Heap} (e : sysB h.get? = true) : SysD h := by
  unfold sysB at e
  split at e
  · rename_i c di es ep sl z
    exact ⟨_, es, ep, z, rfl⟩
  · cases e
end DL

namespace DL
variable {T : List (PySem.Addr × PySem.Str)} {Z : Zx T}
open PySem PySem.Spec PyProof.Rows L2
open Evl (Ex)

mutual
/-- leaves that can be shown -/
def rp : PyData → Bool
  | .none => true
  | .bool _ => true
  | .int i => decide (i.natAbs < 10 ^ 250)
  | .str x => x.cps.toList.all fun c => decide (c < 16 ^ 8)
  | .list xs => rpAll xs
  | .tuple xs => rpAll xs
  | .dict kvs => kvs.isEmpty
def rpAll : List PyData → Bool
  | [] => true
  | x :: xs => rp x && rpAll xs
end
section
variable {X : Cx} {K : PySem.W.Frag} {e : Expr} {es : List Expr} {p pos : Pos} {was : DA} {k : Nat}
def nSum (xs : List PyData) (P : PyData → Prop) : Prop := match xs with
  | [.list ds] => (match intsD ds with | some ns => P (.int ns.sum) | none => False)
  | [.tuple ds] => (match intsD ds with | some ns => P (.int ns.sum) | none => False)
  | _ => False
end
end DL

namespace DL
variable {T : List (PySem.Addr × PySem.Str)} {Z : Zx T}
open PySem PySem.Spec PyProof.Rows L2

section
variable {I S : Type}
theorem qFor_go {b : PyData → I → S → (I → S → Prop) → (I → S → Prop) → Prop} {items : List PyData} {i : I} {K : S → Prop} (Inv : Nat → S → Prop)
    (step : ∀ (k : Nat) (d : PyData) (s : S) (nx : I → S → Prop), items[k]? = some d → Inv k s → (∀ s', Inv (k + 1) s' → nx i s') → b d i s nx (same i K))
    (fin : ∀ s, Inv items.length s → K s) : ∀ (m k : Nat) (s : S), k + m = items.length → Inv k s → qFor b i (items.drop k) s K
  | 0, k, s, hm, h => by
    have e : k = items.length := by omega
    subst e
    rw [List.drop_length]
    exact fin s h
  | m + 1, k, s, hm, h => by
    have hk : k < items.length := by omega
    rw [List.drop_eq_getElem_cons hk]
    exact step k _ s _ (by simp [hk]) h fun s' h' => ⟨rfl, qFor_go Inv step fin m (k + 1) s' (by omega) h'⟩
/-- a for, by what holds ahead of each turn -/
theorem qFor_ind {b : PyData → I → S → (I → S → Prop) → (I → S → Prop) → Prop} {items : List PyData} {i : I} {s : S} {K : S → Prop} (Inv : Nat → S → Prop) (h0 : Inv 0 s)
    (step : ∀ (k : Nat) (d : PyData) (s : S) (nx : I → S → Prop), items[k]? = some d → Inv k s → (∀ s', Inv (k + 1) s' → nx i s') → b d i s nx (same i K))
    (fin : ∀ s, Inv items.length s → K s) : qFor b i items s K := qFor_go Inv step fin items.length 0 s (by omega) h0
/-- a for over a range -/
theorem qFor_range {b : PyData → I → S → (I → S → Prop) → (I → S → Prop) → Prop} {lo : Int} {n : Nat} {i : I} {s : S} {K : S → Prop} (Inv : Nat → S → Prop) (h0 : Inv 0 s)
    (step : ∀ (k : Nat) (s : S) (nx : I → S → Prop), k < n → Inv k s → (∀ s', Inv (k + 1) s' → nx i s') → b (.int (lo + k)) i s nx (same i K))
    (fin : ∀ s, Inv n s → K s) : qFor b i (rangeD lo n) s K := by
  have hl : (rangeD lo n).length = n := by simp [rangeD]
  refine qFor_ind Inv h0 (fun k d s nx hd hi hn => ?_) fun s h => fin s (by rwa [hl] at h)
  unfold rangeD at hd
  rw [List.getElem?_map] at hd
  by_cases hk : k < n
  · rw [List.getElem?_range hk] at hd
    cases hd
    exact step k s nx hk hi hn
  · rw [List.getElem?_eq_none (by simp; omega)] at hd
    cases hd
theorem qLc_go {b : PyData → I → S → (I → S → Prop) → (PyData → I → S → Prop) → Prop} {items : List PyData} {i : I} {K : List PyData → S → Prop} (Inv : Nat → List PyData → S → Prop)
    (step : ∀ (k : Nat) (d : PyData) (acc : List PyData) (s : S) (sk : I → S → Prop) (yd : PyData → I → S → Prop), items[k]? = some d → Inv k acc s → (∀ s', Inv (k + 1) acc s' → sk i s') →
      (∀ y s', acc.length < 100000 → Inv (k + 1) (acc ++ [y]) s' → yd y i s') → b d i s sk yd) (hz : ∀ k acc s, k < items.length → Inv k acc s → acc.length < 100000)
    (fin : ∀ acc s, Inv items.length acc s → K acc s) : ∀ (m k : Nat) (acc : List PyData) (s : S), k + m = items.length → Inv k acc s → qLc b i (items.drop k) acc s K
  | 0, k, acc, s, hm, h => by
    have e : k = items.length := by omega
    subst e
    rw [List.drop_length]
    exact fin acc s h
  | m + 1, k, acc, s, hm, h => by
    have hk : k < items.length := by omega
    rw [List.drop_eq_getElem_cons hk]
    exact step k _ acc s _ _ (by simp [hk]) h (fun s' h' => ⟨rfl, qLc_go Inv step hz fin m (k + 1) acc s' (by omega) h'⟩) fun y s' hl h' => ⟨rfl, hz k acc s hk h, qLc_go Inv step hz fin m (k + 1) (acc ++ [y]) s' (by omega) h'⟩
/-- a comprehension, by what holds ahead of each turn -/
theorem qLc_ind {b : PyData → I → S → (I → S → Prop) → (PyData → I → S → Prop) → Prop} {items : List PyData} {i : I} {s : S} {K : List PyData → S → Prop} (Inv : Nat → List PyData → S → Prop) (h0 : Inv 0 [] s)
    (hz : ∀ k acc s, k < items.length → Inv k acc s → acc.length < 100000)
    (step : ∀ (k : Nat) (d : PyData) (acc : List PyData) (s : S) (sk : I → S → Prop) (yd : PyData → I → S → Prop), items[k]? = some d → Inv k acc s → (∀ s', Inv (k + 1) acc s' → sk i s') →
      (∀ y s', Inv (k + 1) (acc ++ [y]) s' → yd y i s') → b d i s sk yd)
    (fin : ∀ acc s, Inv items.length acc s → K acc s) : qLc b i items [] s K :=
  qLc_go Inv (fun k d acc s sk yd hd hi h1 h2 => step k d acc s sk yd hd hi h1 fun y s' h => h2 y s' (hz k acc s (List.getElem?_eq_some_iff.mp hd).1 hi) h) hz fin items.length 0 [] s (by omega) h0
/-- each item gives one, a state is carried -/
theorem qLc_each {b : PyData → I → S → (I → S → Prop) → (PyData → I → S → Prop) → Prop} {items : List PyData} {i : I} {s : S} {K : List PyData → S → Prop} (T : PyData → Prop) (Inv : Nat → S → Prop) (h0 : Inv 0 s) (hz : items.length ≤ 100000)
    (step : ∀ (k : Nat) (d : PyData) (s : S) (sk : I → S → Prop) (yd : PyData → I → S → Prop), items[k]? = some d → Inv k s → (∀ y s', T y → Inv (k + 1) s' → yd y i s') → b d i s sk yd)
    (fin : ∀ acc s, acc.length = items.length → (∀ y ∈ acc, T y) → Inv items.length s → K acc s) : qLc b i items [] s K :=
  qLc_ind (fun k acc s => acc.length = k ∧ (∀ y ∈ acc, T y) ∧ Inv k s) ⟨rfl, by simp, h0⟩ (fun k acc s hk h => by have := h.1; omega) (fun k d acc s sk yd hd ⟨h1, h2, h3⟩ _ hy => step k d s sk yd hd h3 fun y s' ty h' => hy y s' ⟨by simp [h1], fun z hz => by
    rcases List.mem_append.mp hz with hz | hz
    · exact h2 z hz
    · rw [List.mem_singleton.mp hz]; exact ty, h'⟩) fun acc s ⟨h1, h2, h3⟩ => fin acc s h1 h2 h3
/-- [f x for x in items], nothing changed -/
theorem qLc_map {b : PyData → I → S → (I → S → Prop) → (PyData → I → S → Prop) → Prop} {items : List PyData} {i : I} {s : S} {K : List PyData → S → Prop} (f : PyData → PyData) (hz : items.length ≤ 100000)
    (step : ∀ d ∈ items, ∀ (sk : I → S → Prop) (yd : PyData → I → S → Prop), yd (f d) i s → b d i s sk yd) (fin : K (items.map f) s) : qLc b i items [] s K :=
  qLc_ind (fun k acc s' => acc = (items.take k).map f ∧ s' = s) ⟨by simp, rfl⟩ (fun k acc s' hk h => by rw [h.1]; simp; omega)
    (fun k d acc s' sk yd hd ⟨h1, h2⟩ _ hy => by
      subst h2
      refine step d (List.mem_of_getElem? hd) sk yd (hy _ _ ⟨?_, rfl⟩)
      rw [List.take_add_one, hd, h1]
      simp) fun acc s' ⟨h1, h2⟩ => by
      subst h1 h2
      rw [List.take_length]
      exact fin
end
theorem ixN_in {n : Nat} {k : Int} (h0 : 0 ≤ k) (h1 : k < n) : ixN n k = some k.toNat := by
  unfold ixN
  rw [if_pos h0, if_pos h1]
theorem atI_in {xs : List PyData} {k : Int} (h0 : 0 ≤ k) (h1 : k < xs.length) : ∃ d, atI xs k = some d ∧ d ∈ xs := by
  unfold atI
  rw [ixN_in h0 h1]
  have hk : k.toNat < xs.length := by omega
  exact ⟨xs[k.toNat], by simp [hk], List.getElem_mem hk⟩
theorem at_of {xs : List PyData} {k : Int} {P : PyData → Prop} (h0 : 0 ≤ k) (h1 : k < xs.length) (h : ∀ d ∈ xs, P d) : pick xs k P := by
  obtain ⟨d, e, m⟩ := atI_in h0 h1
  unfold pick
  rw [e]
  exact h d m
theorem pick_eq {xs : List PyData} {k : Int} {P : PyData → Prop} {d : PyData} (e : atI xs k = some d) : pick xs k P = P d := by
  unfold pick
  rw [e]
theorem range_len {lo : Int} {n : Nat} : (rangeD lo n).length = n := by simp [rangeD]
end DL

namespace DL
variable {T : List (PySem.Addr × PySem.Str)} {Z : Zx T}
open PySem PySem.Spec PyProof.Rows L2
open Evl (Ex)

section
variable {X : Cx} {a b e : Expr} {es : List Expr} {we wa wb : DE} {was : DA} {pos p2 p : Pos} {K : PySem.W.Frag}
abbrev DO := List SD → (Option Int → List SD → Prop) → Prop
def liftO (K : PySem.W.Frag) (Z : Zx T) (w : DO) : TO := fun σ H Q => ∃ (g : Gx Z) (F : Hp) (env : List SD) (P : Option Int → List SD → Prop), Ok K g F env σ H ∧ w env P ∧
  ∀ o env' F' H', P o env' → Ex F F' → Ok K g F' env' σ H' → Q o H'
theorem PO.of {e : Option Expr} {t t' : TO} (h : PO X e t) (w : ∀ σ H Q, t' σ H Q → t σ H Q) : PO X e t' := ⟨fun pins s σ H Q I q => h.run pins s σ H Q I (w σ H Q q)⟩
abbrev dNo (env : List SD) (P : Option Int → List SD → Prop) : Prop := P none env
def soQ (x : PyData) (K : Option Int → Prop) : Prop := match x with
  | .int i => K (some i)
  | _ => False
abbrev dSo (w : DE) (env : List SD) (P : Option Int → List SD → Prop) : Prop := w env fun x env' => soQ x fun o => P o env'
theorem so_none : PO X none (liftO X.K Z dNo) := PO.of po_none fun σ H Q ⟨g, F, env, P, k, w, q⟩ => q none env F H w (Ex.refl F) k
theorem so_some (h : PE X e (liftE X.K Z we)) : PO X (some e) (liftO X.K Z (dSo we)) := PO.of (po_some h) fun σ H Q ⟨g, F, env, P, k, w, q⟩ =>
  ⟨g, F, env, _, k, w, fun d env1 v F1 H1 p e1 k1 r1 => by
    unfold soQ at p
    split at p
    · cases r1.inv_int
      exact ⟨_, rfl, q _ env1 F1 H1 p e1 k1⟩
    · exact p.elim⟩
/-- the items of ds[lo:hi] -/
def cutD (ds : List PyData) (lo hi : Option Int) : List PyData := (ds.drop (HT.sIx ds.length 0 lo)).take (HT.sIx ds.length ds.length hi - HT.sIx ds.length 0 lo)
theorem DRs.cut {H : Hp} {vs : List V} {ds : List PyData} (lo hi : Option Int) (h : DRs K H vs ds) : DRs K H (cutV vs lo hi) (cutD ds lo hi) := by
  unfold cutV cutD
  rw [h.length]
  exact (h.drop _).take _
def oSl (x : PyData) (lo hi : Option Int) (P : PyData → Prop) : Prop := match x with
  | .tuple ds => P (.tuple (cutD ds lo hi))
  | .list ds => P (.list (cutD ds lo hi))
  | .str z => z.length ≤ 100000 ∧ P (.str (cutS z lo hi))
  | _ => False
abbrev dSl (w : DE) (l h : DO) (env : List SD) (P : PyData → List SD → Prop) : Prop := w env fun x env1 => l env1 fun lo env2 => h env2 fun hi env3 => oSl x lo hi fun d => P d env3
theorem cutD_whole {xs : List PyData} {lo hi : Option Int} (h : HT.sIx xs.length 0 lo = 0 ∧ HT.sIx xs.length xs.length hi = xs.length) : cutD xs lo hi = xs := by
  unfold cutD
  rw [h.1, h.2]
  simp
theorem dsl {l u : Option Expr} {tl tu : DO} (he : PE X e (liftE X.K Z we)) (hl : PO X l (liftO X.K Z tl)) (hu : PO X u (liftO X.K Z tu)) : PE X (.Subscript e (.Slice l u none p2) pos) (liftE X.K Z (dSl we tl tu)) :=
  PE.of (pe_slice (SlR.or sl_tupZ (SlR.or sl_list sl_str)) he hl hu) fun σ H Q ⟨g, F, env, P, k, w, q⟩ =>
    ⟨g, F, env, _, k, w, fun d env1 v F1 H1 p e1 k1 r1 => ⟨g, F1, env1, _, k1, p, fun lo env2 F2 H2 p2 e2 k2 => ⟨g, F2, env2, _, k2, p2, fun hi env3 F3 H3 p3 e3 k3 => by
      have r3 := (r1.mono e2).mono e3
      have e13 := e1.trans (e2.trans e3)
      unfold oSl at p3
      split at p3
      · rename_i ds
        obtain ⟨a, us, rfl, h1, h2⟩ := r3.inv_tup
        refine .inl ⟨a, us, rfl, Evl.ex_t k3.fh h1, fun hw => ?_, fun _ x o hx ho => ?_⟩
        · rw [h2.length] at hw
          rw [cutD_whole hw] at p3
          exact q _ env3 _ F3 H3 p3 e13 k3 r3
        · obtain ⟨e4, k4, r4⟩ := k3.newTup hx ho (h2.cut lo hi)
          exact q _ env3 _ _ _ p3 (e13.trans e4) k4 r4
      · rename_i ds
        obtain ⟨a, us, rfl, h1, h2⟩ := r3.inv_lst
        refine .inr (.inl ⟨a, us, rfl, (h1.mono k3.fh).sq, fun x hx => ?_⟩)
        obtain ⟨e4, k4, r4⟩ := k3.newLst hx (h2.cut lo hi)
        exact q _ env3 _ _ _ p3 (e13.trans e4) k4 r4
      · cases r3.inv_str
        exact .inr (.inr ⟨_, rfl, sz2 p3.1, q _ env3 _ F3 H3 p3.2 e13 k3 (.str _)⟩)
      · exact p3.elim⟩⟩⟩
def lstQ (x : PyData) (K : List PyData → Prop) : Prop := match x with
  | .list ds => K ds
  | _ => False
def nInt (xs : List PyData) (P : PyData → Prop) : Prop := match xs with
  | [.int i] => P (.int i)
  | [.bool i] => P (.int (if i then 1 else 0))
  | _ => False
theorem dintOf (hm : X.mg "int" = none) (ha : PA X (e :: es) (liftA X.K Z was)) (hg : Gl X "int" := by rfl)
    (he : starEach (e :: es) X.env = (false, eval e X.env) :: starEach es X.env := by rfl) (hpl : (backTo pos (starEach es X.env)).any (·.1) = false := by rfl) : PE X (.Call (.Name "int" p) (e :: es) [] pos) (liftE X.K Z (dB nInt was)) :=
  dct call_int1 (fun _ _ g F env σ H vs ds P Q k r f q => by
    unfold nInt at f
    split at f
    · obtain ⟨v, rfl, r0⟩ := r.inv1
      cases r0.inv_int
      exact .inl ⟨_, rfl, q _ _ F H f (Ex.refl F) k (.int _)⟩
    · obtain ⟨v, rfl, r0⟩ := r.inv1
      cases r0.inv_bool
      exact .inr ⟨_, rfl, q _ _ F H f (Ex.refl F) k (.int _)⟩
    · exact f.elim) hm (by decide +kernel) ha hg (by decide) (by decide) he hpl
def nTuple (xs : List PyData) (P : PyData → Prop) : Prop := match xs with
  | [.list ds] => P (.tuple ds)
  | [.tuple ds] => P (.tuple ds)
  | [.dict [(.none, .list ds)]] => P (.tuple ds)
  | _ => False
theorem call_tupleR : CallR X (.type "tuple") (fun xs H Q => ∃ x, xs = [x] ∧ kTupZ X.K x H Q) := by
  intro pins s σ H xs us Q I r h
  obtain ⟨x, rfl, q⟩ := h
  cases r with
  | cons r rr =>
    cases rr
    exact rl_tupleZ pins s σ H x _ Q I r q
theorem dtupleOf (hm : X.mg "tuple" = none) (ha : PA X (e :: es) (liftA X.K Z was)) (hg : Gl X "tuple" := by rfl)
    (he : starEach (e :: es) X.env = (false, eval e X.env) :: starEach es X.env := by rfl) (hpl : (backTo pos (starEach es X.env)).any (·.1) = false := by rfl) : PE X (.Call (.Name "tuple" p) (e :: es) [] pos) (liftE X.K Z (dB nTuple was)) :=
  dct call_tupleR (fun _ _ g F env σ H vs ds P Q k r f q => by
    unfold nTuple at f
    split at f
    · obtain ⟨v, rfl, r0⟩ := r.inv1
      obtain ⟨a, us, rfl, h1, h2⟩ := r0.inv_lst
      refine ⟨_, rfl, .inl ⟨a, us, rfl, (h1.mono k.fh).sq, fun x o hx ho => ?_⟩⟩
      obtain ⟨e4, k4, r4⟩ := k.newTup hx ho h2
      exact q _ _ _ _ f e4 k4 r4
    · obtain ⟨v, rfl, r0⟩ := r.inv1
      obtain ⟨a, us, rfl, h1, h2⟩ := r0.inv_tup
      exact ⟨_, rfl, .inr ⟨a, us, rfl, Evl.ex_t k.fh h1, q _ _ F H f (Ex.refl F) k r0⟩⟩
    · obtain ⟨v, rfl, r0⟩ := r.inv1
      cases r0 with
      | dct _ m => cases m
      | row h1 h2 =>
        refine ⟨_, rfl, .inl ⟨_, _, rfl, SqL.of (k.fh _ _ h1), fun x o hx ho => ?_⟩⟩
        obtain ⟨e4, k4, r4⟩ := k.newTup hx ho h2
        exact q _ _ _ _ f e4 k4 r4
      | opq _ x => rcases x with x | ⟨_, x, _⟩ <;> cases x
    · exact f.elim) hm (by decide +kernel) ha hg (by decide) (by decide) he hpl
/-- tuple(xs) of a name's own cell -/
abbrev dTupC (i : Nat) (env : List SD) (P : PyData → List SD → Prop) : Prop := match env[i]? with
  | some (.cel _ xs) => P (.tuple xs) env
  | _ => False
theorem dtupC (i : Nat) {x : Str} {p0 : Pos} (hm : X.mg "tuple" = none) (hN : X.N[i]? = some x := by rfl)
    (hv : Vis X.env.scope x := by first | exact Or.inl rfl | exact Or.inr (Or.inl rfl) | exact Or.inr (Or.inr rfl)) (hd : (x == ("__debug__" : Str)) = false := by decide) (hcd : (x == ("__classdict__" : Str)) = false := by decide) (hg : Gl X "tuple" := by rfl)
    (na : starEach [.Name x p0] X.env = (false, eval (.Name x p0) X.env) :: starEach [] X.env := by rfl) : PE X (.Call (.Name "tuple" p) [.Name x p0] [] pos) (liftE X.K Z (dTupC i)) :=
  PE.of (pe_tupleZ hg hm (pe_var hN hv hd hcd) na) fun σ H Q ⟨g, F, env, P, k, w, q⟩ => by
    unfold dTupC at w
    split at w
    · rename_i p xs e
      obtain ⟨a0, vs, h1, h2, h3, h4, h5⟩ := k.cel i p xs e
      refine ⟨_, h1, .inl ⟨a0, vs, rfl, SqL.of h3, fun x o hx ho => ?_⟩⟩
      obtain ⟨e4, k4, r4⟩ := k.newTup hx ho h4
      exact q _ _ _ _ _ w e4 k4 r4
    · exact w.elim
/-- len(xs) of a name's own cell -/
abbrev dLenC (i : Nat) (env : List SD) (P : PyData → List SD → Prop) : Prop := match env[i]? with
  | some (.cel _ xs) => P (.int (xs.length : Nat)) env
  | _ => False
theorem dlenC (i : Nat) {x : Str} {p0 : Pos} (hm : X.mg "len" = none) (hN : X.N[i]? = some x := by rfl)
    (hv : Vis X.env.scope x := by first | exact Or.inl rfl | exact Or.inr (Or.inl rfl) | exact Or.inr (Or.inr rfl)) (hd : (x == ("__debug__" : Str)) = false := by decide) (hcd : (x == ("__classdict__" : Str)) = false := by decide) (hg : Gl X "len" := by rfl)
    (na : starEach [.Name x p0] X.env = (false, eval (.Name x p0) X.env) :: starEach [] X.env := by rfl) (hpl : (backTo pos (starEach [] X.env)).any (·.1) = false := by rfl) : PE X (.Call (.Name "len" p) [.Name x p0] [] pos) (liftE X.K Z (dLenC i)) :=
  PE.of (pe_callB call_len hg hm PySem.boot_len (pa_cons (pe_var hN hv hd hcd) pa_nil na) (by decide) (by decide) na hpl) fun σ H Q ⟨g, F, env, P, k, w, q⟩ => by
    unfold dLenC at w
    split at w
    · rename_i p xs e
      obtain ⟨a0, vs, h1, h2, h3, h4, h5⟩ := k.cel i p xs e
      exact ⟨_, h1, _, vs.length, rfl, .inl ⟨vs, SqL.of h3, rfl⟩, by rw [h4.length]; exact q _ _ _ F H w (Ex.refl F) k (.int _)⟩
    · exact w.elim
def nList (xs : List PyData) (P : List PyData → Prop) : Prop := match xs with
  | [.list ds] => P ds
  | [.tuple ds] => P ds
  | _ => False
/-- a name's own cell stays as it is from here on, or its datum -/
abbrev dFreeze2 (i : Nat) (w : DS) (E : DEnds) (env : List SD) : Prop := match env[i]? with
  | some (.cel false xs) => w E (env.set i (.dat (.list xs)))
  | some (.dat _) => w E env
  | _ => False
theorem ssfreeze2 {sts : List Stmt} {m : Nat} {w : DS} (i : Nat) (h : PSs X sts (liftS X.K Z m w)) : PSs X sts (liftS X.K Z m (dFreeze2 i w)) := PSs.of h fun D σ H ⟨g, F, env, P, k, w, q⟩ => by
  unfold dFreeze2 at w
  split at w
  · rename_i xs e
    obtain ⟨F', e1, k1⟩ := k.freeze e
    exact ⟨g, F', _, P, k1, w, q.ex e1⟩
  · exact ⟨g, F, env, P, k, w, q⟩
  · exact w.elim
end
end DL

namespace DL
variable {T : List (PySem.Addr × PySem.Str)} {Z : Zx T}
open PySem PySem.Spec PyProof.Rows L2
open Evl (Ex)

section
variable {X : Cx} {a b e : Expr} {es : List Expr} {we wa wb : DE} {was : DA} {pos p p1 p2 p3 : Pos} {K : PySem.W.Frag}
theorem DRs.snoc {H : Hp} {v : V} {d : PyData} : ∀ {vs : List V} {ds : List PyData}, DRs K H vs ds → DR K H v d → DRs K H (vs ++ [v]) (ds ++ [d])
  | _, _, .nil, r => .cons r .nil
  | _, _, .cons h t, r => .cons h (DRs.snoc t r)
end
end DL

namespace DL
variable {T : List (PySem.Addr × PySem.Str)} {Z : Zx T}
open PySem PySem.Spec PyProof.Rows L2
open Evl (Ex)

def jn {α : Type} (f : α → Prop) (k : α) : Prop := f k
def tAnd (b : Bool) (u : (Bool → Prop) → Prop) (K : Bool → Prop) : Prop := bIf b (u K) (K false)
def tOr (b : Bool) (u : (Bool → Prop) → Prop) (K : Bool → Prop) : Prop := bIf b (K true) (u K)
def vAnd (b : Bool) (u : (PyData → Prop) → Prop) (K : PyData → Prop) : Prop := bIf b (u K) (K (.bool false))
def vOr (b : Bool) (u : (PyData → Prop) → Prop) (K : PyData → Prop) : Prop := bIf b (K (.bool true)) (u K)
def vIf (b : Bool) (u v : (PyData → Prop) → Prop) (K : PyData → Prop) : Prop := bIf b (u K) (v K)
theorem at_env {t : DS} {E : DEnds} {a b : List SD} (e : a = b) (h : t E b) : t E a := e ▸ h
theorem cels1 {c : List PyData} {ds : List PyData} {i : Nat} {p : Bool} {xs : List PyData} (e : (SD.cel true c :: ds.map .dat)[i]? = some (.cel p xs)) : i < 1 := by
  cases i with
  | zero => exact Nat.zero_lt_one
  | succ i => exact absurd (by simpa using e) (no_cel (ds := ds) i p xs)
end DL

namespace DL
variable {T : List (PySem.Addr × PySem.Str)} {Z : Zx T}
open PySem PySem.Spec PyProof.Rows L2
open Evl (Ex)
section
variable {X : Cx} {a b e : Expr} {es : List Expr} {we wa wb : DE} {was : DA} {pos p p1 p2 p3 : Pos} {K : PySem.W.Frag} {m : Nat}
theorem DRs.flat {F : Hp} {vs : List V} {ds : List PyData} (r : DRs K F vs ds) : ∀ n : Nat, DRs K F (List.replicate n vs).flatten (List.replicate n ds).flatten
  | 0 => .nil
  | n + 1 => by
    rw [List.replicate_succ, List.replicate_succ, List.flatten_cons, List.flatten_cons]
    exact r.append (DRs.flat r n)
theorem tuple_mul1 (l : Addr) (items : Array Value) (n : Nat) (dd : Option Addr) (sl : Array (Option Value)) (u : Tok) :
    Meets (Builtin.«tuple.__mul__» ⟨[.ref l, .int 1 u], []⟩) (fun _ R s => s.heap.get? l = some { cls := .type "tuple", dict := dd, data := .seq items n, slots := sl } ∧ R (.ok (.ret (Value.ref l))) s) :=
  .of_wp fun prog w A R s h => by
    obtain ⟨hp, g, d, tk, os⟩ := s
    obtain ⟨hl, h⟩ := h
    have f1 := AutoSeq1.idx_int
    have c1 : (items.isEmpty || (1 : Int) == 1) = true := by simp
    wp_walk using wpAny_loadPart' hl
    repeat (first
      | (refine wpAny_ite_false (decide_eq_false (by decide)) ?_; wp_walk using wpAny_loadPart' hl)
      | (refine wpAny_ite_true (decide_eq_true c1) ?_; wp_walk using wpAny_loadPart' hl))
    exact ⟨_, rfl, h⟩
def rRepT1 (K : PySem.W.Frag) : R2 := fun x y H Q => ∃ l xs, x = .ref l ∧ y = .int 1 ∧ SqT K H l xs ∧ Q (.ref l) H
theorem op_repT1 {X : Cx} : OpR X (binaryOp .Mult) (rRepT1 X.K) := by
  intro pins s σ H x y v u Q I rx ry h
  obtain ⟨l, xs, rfl, rfl, hT, q⟩ := h
  cases rx
  obtain ⟨t, rfl⟩ := ry
  obtain ⟨its, r, ⟨⟨cls, dd, data, sl⟩, ho, hc, n, hd⟩, hs⟩ := I.tuple hT
  simp only at hc hd
  subst hc hd
  exact wpAny_binaryOp_repeat_ref (T := "tuple") (U := "int") (by decide) ⟨_, ho, rfl⟩ (fun s' => typeIs_int s' 1 t) noFill_tuple_mul F.fills_int_mul F.slot_int_rmul repeat_tuple F.slot_int_index.lookup
    (call_meets F.slot_int_rmul (typeIs_int s 1 t) F.entry_int_rmul (F.args_int_rmul_2 _ _) (int_rmul_tuple 1 t l its.toArray n dd sl)
      ⟨ho, rfl, ⟨_, ho, rfl⟩, call_meets F.slot_tuple_mul ⟨_, ho, rfl⟩ F.entry_tuple_mul (F.args_tuple_mul_2 _ _) (tuple_mul1 l its.toArray n dd sl t) ⟨ho, ⟨.ref l, H, I, rfl, q⟩⟩⟩)
def oMul (x y : PyData) (P : PyData → Prop) : Prop := match x, y with
  | .int i, .int j => (Sz i ∧ Sz j) ∧ P (.int (i * j))
  | .tuple xs, .int k => (xs ≠ [] ∧ 1 ≤ k ∧ k ≤ 1000 ∧ xs.length ≤ 1000) ∧ P (.tuple (List.replicate k.toNat xs).flatten)
  | _, _ => False
theorem opd_mul {r : R2} (h : OpD K r oMulI) : OpD K (fun x y H Q => r x y H Q ∨ (rRepT1 K x y H Q ∨ rRepZ K x y H Q)) oMul := by
  intro _ _ g F env σ H vx vy dx dy P Q k rx ry p q
  unfold oMul at p
  split at p
  · exact .inl (h _ _ g F env σ H vx vy _ _ P Q k rx ry p q)
  · rename_i xs n
    cases ry.inv_int
    obtain ⟨a, us, rfl, h1, h2⟩ := rx.inv_tup
    obtain ⟨⟨z1, z2, z3, z4⟩, p⟩ := p
    by_cases e1 : n = 1
    · subst e1
      have e : (List.replicate (Int.toNat 1) xs).flatten = xs := by
        show (List.replicate 1 xs).flatten = xs
        simp
      rw [e] at p
      exact .inr (.inl ⟨a, us, rfl, rfl, Evl.ex_t k.fh h1, q _ _ F H p (Ex.refl F) k rx⟩)
    refine .inr (.inr ⟨a, n, us, rfl, rfl, Evl.ex_t k.fh h1, fun e => z1 ?_, by omega, z3, by rw [h2.length]; exact z4, fun x o hx ho => ?_⟩)
    · subst e
      cases h2
      rfl
    · obtain ⟨e2, k2, r2⟩ := k.newTup hx ho (DRs.flat h2 n.toNat)
      exact q _ _ _ _ p e2 k2 r2
  · exact p.elim
theorem dmul (ha : PE X a (liftE X.K Z wa)) (hb : PE X b (liftE X.K Z wb)) : PE X (.BinOp a .Mult b pos) (liftE X.K Z (dOp oMul wa wb)) := dop (OpR.or op_mulW (OpR.or op_repT1 op_repZ)) (opd_mul (opd_I (fun _ _ h => by have h1 := h.1.log; have h2 := h.2.log; unfold CMulW; omega) fun _ _ _ => .int _)) ha hb
/-- xs[::-1] of a list, that stays -/
def oRev (x : PyData) (P : PyData → Prop) : Prop := lstQ x fun ds => P (.list ds.reverse)
end
end DL

namespace DL
variable {T : List (PySem.Addr × PySem.Str)} {Z : Zx T}
open PySem PySem.Spec PyProof.Rows L2
section
variable {P K : PyData → Prop} {a b c : Int} {x y : PyData} {xs ys : List PyData} {T : Bool → Prop}
theorem q_bT : bT (.bool t) T = T t := rfl
theorem q_add : oAdd (.int a) (.int b) P = P (.int (a + b)) := rfl
theorem q_addT : oAdd (.tuple xs) (.tuple ys) P = (xs.length + ys.length ≤ 100000 ∧ P (.tuple (xs ++ ys))) := rfl
theorem q_addL : oAdd (.list xs) (.list ys) P = (xs.length + ys.length ≤ 100000 ∧ P (.list (xs ++ ys))) := rfl
theorem q_addS {i j : Str} : oAdd (.str i) (.str j) P = (i.length + j.length ≤ 100000 ∧ P (.str (i ++ j))) := rfl
theorem q_sub : oSub (.int a) (.int b) P = P (.int (a - b)) := rfl
theorem q_mul : oMul (.int a) (.int b) P = ((Sz a ∧ Sz b) ∧ P (.int (a * b))) := rfl
theorem q_mulT : oMul (.tuple xs) (.int b) P = ((xs ≠ [] ∧ 1 ≤ b ∧ b ≤ 1000 ∧ xs.length ≤ 1000) ∧ P (.tuple (List.replicate b.toNat xs).flatten)) := rfl
theorem q_div : oDiv (.int a) (.int b) P = ((0 < b ∧ Sz b) ∧ P (.int (a / b))) := rfl
theorem q_mod : oMod (.int a) (.int b) P = (0 < b ∧ P (.int (a % b))) := rfl
theorem q_pow : oPow (.int a) (.int b) P = ((Sz a ∧ 0 ≤ b ∧ b ≤ 10000) ∧ P (.int (a ^ b.toNat))) := rfl
theorem q_neg : oNeg (.int a) P = P (.int (-a)) := rfl
theorem q_lt : oLt (.int a) (.int b) P = P (.bool (decide (a < b))) := rfl
theorem q_le : oLe (.int a) (.int b) P = P (.bool (decide (a ≤ b))) := rfl
theorem q_gt : oGt (.int a) (.int b) P = P (.bool (decide (b < a))) := rfl
theorem q_ge : oGe (.int a) (.int b) P = P (.bool (decide (b ≤ a))) := rfl
theorem q_oI {f : Int → Int → PyData} : oI f (.int a) (.int b) P = P (f a b) := rfl
theorem shaped_int : SeqAt.shaped (.int a) = true := by unfold SeqAt.shaped; rfl
theorem q_eq : oEq (.int a) (.int b) P = P (.bool (decide (a = b))) := by
  show ((SeqAt.shaped (.int a) = true ∧ SeqAt.shaped (.int b) = true) ∧ P (.bool (eqD (.int a) (.int b)))) = _
  rw [eqD_int]
  simp only [shaped_int, and_self, true_and]
theorem q_ne : oNe (.int a) (.int b) P = P (.bool (!decide (a = b))) := by
  show ((SeqAt.shaped (.int a) = true ∧ SeqAt.shaped (.int b) = true) ∧ P (.bool (!eqD (.int a) (.int b)))) = _
  rw [eqD_int]
  simp only [shaped_int, and_self, true_and]
theorem shaped_bool {t : Bool} : SeqAt.shaped (.bool t) = true := by unfold SeqAt.shaped; rfl
theorem eqD_bool {t u : Bool} : eqD (.bool t) (.bool u) = decide (t = u) := by
  rw [eqD_eq]
  cases t <;> cases u <;> simp [PyData.eqv]
theorem q_eqB {t u : Bool} : oEq (.bool t) (.bool u) P = P (.bool (decide (t = u))) := by
  show ((SeqAt.shaped (.bool t) = true ∧ SeqAt.shaped (.bool u) = true) ∧ P (.bool (eqD (.bool t) (.bool u)))) = _
  rw [eqD_bool]
  simp only [shaped_bool, and_self, true_and]
theorem q_neB {t u : Bool} : oNe (.bool t) (.bool u) P = P (.bool (!decide (t = u))) := by
  show ((SeqAt.shaped (.bool t) = true ∧ SeqAt.shaped (.bool u) = true) ∧ P (.bool (!eqD (.bool t) (.bool u)))) = _
  rw [eqD_bool]
  simp only [shaped_bool, and_self, true_and]
theorem q_eqS {i j : Str} : oEq (.str i) (.str j) P = P (.bool (decide (i = j))) := rfl
theorem q_neS {i j : Str} : oNe (.str i) (.str j) P = P (.bool (!decide (i = j))) := rfl
theorem eqD_self (x : PyData) (h : PyData.eqv x x = true) : eqD x x = true := by rw [eqD_eq]; exact h
/-- == of like things -/
theorem eq_same (h : x = y) (hs : SeqAt.shaped x = true) (he : PyData.eqv x x = true) (k : P (.bool true)) : oEq x y P := by
  subst h
  unfold oEq
  split
  · rw [decide_eq_true rfl]; exact k
  · exact ⟨⟨hs, hs⟩, by rw [eqD_self _ he]; exact k⟩
theorem ne_same (h : x = y) (hs : SeqAt.shaped x = true) (he : PyData.eqv x x = true) (k : P (.bool false)) : oNe x y P := by
  subst h
  unfold oNe
  split
  · rw [decide_eq_true rfl]; exact k
  · exact ⟨⟨hs, hs⟩, by rw [eqD_self _ he]; exact k⟩
theorem q_isN : oIsN .none P = P (.bool true) := rfl
theorem q_isNi : oIsN (.int a) P = P (.bool false) := rfl
theorem q_isNt : oIsN (.tuple xs) P = P (.bool false) := rfl
theorem q_isNs {i : Str} : oIsN (.str i) P = P (.bool false) := rfl
theorem q_notN : oNotN .none P = P (.bool false) := rfl
theorem q_notNi : oNotN (.int a) P = P (.bool true) := rfl
theorem q_notNt : oNotN (.tuple xs) P = P (.bool true) := rfl
theorem q_ix : oIx (.tuple xs) (.int a) P = pick xs a P := rfl
theorem q_ixL : oIx (.list xs) (.int a) P = pick xs a P := rfl
theorem q_ixQ : ixQ xs (.int a) P = pick xs a P := rfl
theorem q_len : nLen [.list xs] P = P (.int (xs.length : Nat)) := rfl
theorem q_lenT : nLen [.tuple xs] P = P (.int (xs.length : Nat)) := rfl
theorem q_lenS {i : Str} : nLen [.str i] P = (i.length ≤ 100000 ∧ P (.int (i.length : Nat))) := rfl
theorem q_abs : nAbs [.int a] P = P (.int (if a < 0 then -a else a)) := rfl
theorem q_min : nMin2 [.int a, .int b] P = P (.int (if b < a then b else a)) := rfl
theorem q_max : nMax2 [.int a, .int b] P = P (.int (if b > a then b else a)) := rfl
theorem q_tupleOf : nTuple [.list xs] P = P (.tuple xs) := rfl
theorem q_tupleOfT : nTuple [.tuple xs] P = P (.tuple xs) := rfl
theorem q_int : nInt [.int a] P = P (.int a) := rfl
theorem q_intB {t : Bool} : nInt [.bool t] P = P (.int (if t then 1 else 0)) := rfl
theorem q_list {P : List PyData → Prop} : nList [.list xs] P = P xs := rfl
theorem q_listT {P : List PyData → Prop} : nList [.tuple xs] P = P xs := rfl
theorem q_tup {K : List PyData → Prop} : tupQ (.tuple xs) K = K xs := rfl
theorem q_cons {K : PyData → List PyData → Prop} : consQ (x :: xs) K = K x xs := rfl
theorem q_nil {p : Prop} : nilQ [] p = p := rfl
theorem q_so {K : Option Int → Prop} : soQ (.int a) K = K (some a) := rfl
theorem q_lst {K : List PyData → Prop} : lstQ (.list xs) K = K xs := rfl
theorem q_items {K : List PyData → Prop} : itemsQ (.list xs) K = K xs := At.eq
theorem q_itemsT {K : List PyData → Prop} : itemsQ (.tuple xs) K = K xs := At.eq
theorem q_slT {lo hi : Option Int} : oSl (.tuple xs) lo hi P = P (.tuple (DL.cutD xs lo hi)) := rfl
theorem q_slL {lo hi : Option Int} : oSl (.list xs) lo hi P = P (.list (DL.cutD xs lo hi)) := rfl
theorem q_rev : oRev (.list xs) P = P (.list xs.reverse) := rfl
theorem q_zip {K : List PyData → Prop} : zipQ [.list xs, .list ys] K = K (zipD xs ys) := At.eq
theorem q_zipT {K : List PyData → Prop} : zipQ [.tuple xs, .tuple ys] K = K (zipD xs ys) := At.eq
theorem q_rng1 {K : List PyData → Prop} : rng1 [.int a] K = ((-1000000 ≤ a ∧ a ≤ 1000000) ∧ K (rangeD 0 a.toNat)) := by
  show (_ ∧ At _ _) = _
  rw [At.eq]
theorem q_rng2 {K : List PyData → Prop} : rng2 [.int a, .int b] K = ((-1000000 ≤ a ∧ a ≤ 1000000 ∧ -1000000 ≤ b ∧ b ≤ 1000000) ∧ K (rangeD a (b - a).toNat)) := by
  show (_ ∧ At _ _) = _
  rw [At.eq]
theorem q_all : nAll [.list xs] P = (match boolsD xs with | some bs => P (.bool (bs.all id)) | none => False) := rfl
theorem q_any : nAny [.list xs] P = (match boolsD xs with | some bs => P (.bool (bs.any id)) | none => False) := rfl
theorem q_sum : nSum [.list xs] P = (match intsD xs with | some bs => P (.int bs.sum) | none => False) := rfl
theorem q_sumT : nSum [.tuple xs] P = (match intsD xs with | some bs => P (.int bs.sum) | none => False) := rfl
theorem q_ap {K : List PyData → Prop} : apQ xs x K = (xs.length < 100000 ∧ K (xs ++ [x])) := rfl
theorem bools_map (ds : List PyData) (f : PyData → Bool) : boolsD (ds.map fun d => .bool (f d)) = some (ds.map f) := by
  induction ds with
  | nil => rfl
  | cons d ds ih => simp [boolsD, ih]
theorem ints_map (ns : List Int) : intsD (ns.map .int) = some ns := by
  induction ns with
  | nil => rfl
  | cons d ds ih => simp [intsD, ih]
theorem q_sumI {ns : List Int} : nSum [.list (ns.map .int)] P = P (.int ns.sum) := by rw [q_sum, ints_map]
theorem q_sumTI {ns : List Int} : nSum [.tuple (ns.map .int)] P = P (.int ns.sum) := by rw [q_sumT, ints_map]
theorem q_allB {ds : List PyData} {f : PyData → Bool} : nAll [.list (ds.map fun d => .bool (f d))] P = P (.bool (ds.all f)) := by
  rw [q_all, bools_map]
  simp only [List.all_map]
  rfl
theorem q_anyB {ds : List PyData} {f : PyData → Bool} : nAny [.list (ds.map fun d => .bool (f d))] P = P (.bool (ds.any f)) := by
  rw [q_any, bools_map]
  simp only [List.any_map]
  rfl
section
variable {S : Prop} {t : Bool} {u : (Bool → Prop) → Prop} {v : (PyData → Prop) → Prop} {K : Bool → Prop} {L : PyData → Prop}
theorem q_same {I S : Type} {i : I} {N : S → Prop} {s : S} : same i N i s = N s := propext ⟨fun h => h.2, fun h => ⟨rfl, h⟩⟩
theorem q_jn {α : Type} {f : α → Prop} {k : α} : jn f k = f k := rfl
theorem q_tAnd_k {b c : Bool} {K : Bool → Prop} : tAnd b (fun k => k c) K = K (b && c) := by cases b <;> rfl
theorem q_tOr_k {b c : Bool} {K : Bool → Prop} : tOr b (fun k => k c) K = K (b || c) := by cases b <;> rfl
theorem q_vAnd_k {b c : Bool} : vAnd b (fun k => k (.bool c)) L = L (.bool (b && c)) := by cases b <;> rfl
theorem q_vOr_k {b c : Bool} : vOr b (fun k => k (.bool c)) L = L (.bool (b || c)) := by cases b <;> rfl
theorem q_tAnd_s {b c : Bool} {K : Bool → Prop} {S : Prop} : tAnd b (fun k => S ∧ k c) K = ((b = true → S) ∧ K (b && c)) := by
  cases b
  · simp only [Bool.false_eq_true, false_imp_iff, true_and]; rfl
  · simp only [true_imp_iff, Bool.true_and]; rfl
theorem q_tOr_s {b c : Bool} {K : Bool → Prop} {S : Prop} : tOr b (fun k => S ∧ k c) K = ((b = false → S) ∧ K (b || c)) := by
  cases b
  · simp only [true_imp_iff, Bool.false_or]; rfl
  · simp only [Bool.true_eq_false, false_imp_iff, true_and]; rfl
theorem q_vAnd_s {b c : Bool} {S : Prop} : vAnd b (fun k => S ∧ k (.bool c)) L = ((b = true → S) ∧ L (.bool (b && c))) := by
  cases b
  · simp only [Bool.false_eq_true, false_imp_iff, true_and]; rfl
  · simp only [true_imp_iff, Bool.true_and]; rfl
theorem q_vOr_s {b c : Bool} {S : Prop} : vOr b (fun k => S ∧ k (.bool c)) L = ((b = false → S) ∧ L (.bool (b || c))) := by
  cases b
  · simp only [true_imp_iff, Bool.false_or]; rfl
  · simp only [Bool.true_eq_false, false_imp_iff, true_and]; rfl
theorem q_vIf_k {b : Bool} {x y : PyData} : vIf b (fun k => k x) (fun k => k y) L = L (if b then x else y) := by cases b <;> rfl
theorem q_tAnd_t {K : Bool → Prop} : tAnd true u K = u K := rfl
theorem q_tAnd_f {K : Bool → Prop} : tAnd false u K = K false := rfl
theorem q_tOr_t {K : Bool → Prop} : tOr true u K = K true := rfl
theorem q_tOr_f {K : Bool → Prop} : tOr false u K = u K := rfl
theorem q_vAnd_t : vAnd true v L = v L := rfl
theorem q_vAnd_f : vAnd false v L = L (.bool false) := rfl
theorem q_vOr_t : vOr true v L = L (.bool true) := rfl
theorem q_vOr_f : vOr false v L = v L := rfl
theorem q_vIf_t {v' : (PyData → Prop) → Prop} : vIf true v v' L = v L := rfl
theorem q_vIf_f {v' : (PyData → Prop) → Prop} : vIf false v v' L = v' L := rfl
theorem bIf_of {b : Bool} {p q : Prop} (h1 : b = true → p) (h2 : b = false → q) : bIf b p q := by
  cases b
  · exact h2 rfl
  · exact h1 rfl
theorem bIf_d {c : Prop} [Decidable c] {p q : Prop} (h1 : c → p) (h2 : ¬ c → q) : bIf (decide c) p q := by
  by_cases h : c
  · rw [decide_eq_true h]; exact h1 h
  · rw [decide_eq_false h]; exact h2 h
end
theorem pick_lit {xs : List PyData} (n : Nat) {d : PyData} (e : xs[n]? = some d) : pick xs (n : Int) P = P d := pick_eq (by
  unfold atI
  rw [ixN_in (by omega) (by have := (List.getElem?_eq_some_iff.mp e).1; omega)]
  exact e)
theorem at0 {a : PyData} {l : List PyData} : pick (a :: l) 0 P = P a := pick_lit 0 rfl
theorem at1 {a b : PyData} {l : List PyData} : pick (a :: b :: l) 1 P = P b := pick_lit 1 rfl
theorem at2 {a b c : PyData} {l : List PyData} : pick (a :: b :: c :: l) 2 P = P c := pick_lit 2 rfl
theorem at3 {a b c d : PyData} {l : List PyData} : pick (a :: b :: c :: d :: l) 3 P = P d := pick_lit 3 rfl
theorem at4 {a b c d e : PyData} {l : List PyData} : pick (a :: b :: c :: d :: e :: l) 4 P = P e := pick_lit 4 rfl
theorem at5 {a b c d e f : PyData} {l : List PyData} : pick (a :: b :: c :: d :: e :: f :: l) 5 P = P f := pick_lit 5 rfl
theorem at6 {a b c d e f g : PyData} {l : List PyData} : pick (a :: b :: c :: d :: e :: f :: g :: l) 6 P = P g := pick_lit 6 rfl
theorem atLast {xs : List PyData} {d : PyData} : pick (xs ++ [d]) (-1) P = P d := pick_eq (by
  unfold atI ixN
  rw [if_neg (by decide), if_pos (by simp; omega)]
  show (xs ++ [d])[((-1 : Int) + ((xs ++ [d]).length : Nat)).toNat]? = some d
  rw [show ((-1 : Int) + ((xs ++ [d]).length : Nat)).toNat = xs.length by simp; omega]
  simp)
/-- any item -/
theorem pick_mem {xs : List PyData} {k : Int} (h0 : 0 ≤ k) (h1 : k < xs.length) (h : ∀ d ∈ xs, P d) : pick xs k P := at_of h0 h1 h
theorem st0 {x a : PyData} {r : List PyData} {K : List PyData → Prop} : stQ (a :: r) (.int 0) x K = K (x :: r) := by
  show (match ixN (a :: r).length 0 with | some j => K ((a :: r).set j x) | none => False) = _
  rw [ixN_in (by decide) (by simp)]
  rfl
theorem st1 {x a b : PyData} {r : List PyData} {K : List PyData → Prop} : stQ (a :: b :: r) (.int 1) x K = K (a :: x :: r) := by
  show (match ixN (a :: b :: r).length 1 with | some j => K ((a :: b :: r).set j x) | none => False) = _
  rw [ixN_in (by decide) (by simp; omega)]
  rfl
theorem st2 {x a b c : PyData} {r : List PyData} {K : List PyData → Prop} : stQ (a :: b :: c :: r) (.int 2) x K = K (a :: b :: x :: r) := by
  show (match ixN (a :: b :: c :: r).length 2 with | some j => K ((a :: b :: c :: r).set j x) | none => False) = _
  rw [ixN_in (by decide) (by simp; omega)]
  rfl
theorem st3 {x a b c d : PyData} {r : List PyData} {K : List PyData → Prop} : stQ (a :: b :: c :: d :: r) (.int 3) x K = K (a :: b :: c :: x :: r) := by
  show (match ixN (a :: b :: c :: d :: r).length 3 with | some j => K ((a :: b :: c :: d :: r).set j x) | none => False) = _
  rw [ixN_in (by decide) (by simp; omega)]
  rfl
theorem st4 {x a b c d e : PyData} {r : List PyData} {K : List PyData → Prop} : stQ (a :: b :: c :: d :: e :: r) (.int 4) x K = K (a :: b :: c :: d :: x :: r) := by
  show (match ixN (a :: b :: c :: d :: e :: r).length 4 with | some j => K ((a :: b :: c :: d :: e :: r).set j x) | none => False) = _
  rw [ixN_in (by decide) (by simp; omega)]
  rfl
end
theorem isi_non_int : isiB .none "int" = false := rfl
theorem isi_non_bool : isiB .none "bool" = false := rfl
theorem isi_non_str : isiB .none "str" = false := rfl
theorem isi_non_list : isiB .none "list" = false := rfl
theorem isi_non_tuple : isiB .none "tuple" = false := rfl
theorem isi_non_dict : isiB .none "dict" = false := rfl
theorem isi_bl_int {t : Bool} : isiB (.bool t) "int" = true := rfl
theorem isi_bl_bool {t : Bool} : isiB (.bool t) "bool" = true := rfl
theorem isi_bl_str {t : Bool} : isiB (.bool t) "str" = false := rfl
theorem isi_bl_list {t : Bool} : isiB (.bool t) "list" = false := rfl
theorem isi_bl_tuple {t : Bool} : isiB (.bool t) "tuple" = false := rfl
theorem isi_bl_dict {t : Bool} : isiB (.bool t) "dict" = false := rfl
theorem isi_int_int {a : Int} : isiB (.int a) "int" = true := rfl
theorem isi_int_bool {a : Int} : isiB (.int a) "bool" = false := rfl
theorem isi_int_str {a : Int} : isiB (.int a) "str" = false := rfl
theorem isi_int_list {a : Int} : isiB (.int a) "list" = false := rfl
theorem isi_int_tuple {a : Int} : isiB (.int a) "tuple" = false := rfl
theorem isi_int_dict {a : Int} : isiB (.int a) "dict" = false := rfl
theorem isi_str_int {x : Str} : isiB (.str x) "int" = false := rfl
theorem isi_str_bool {x : Str} : isiB (.str x) "bool" = false := rfl
theorem isi_str_str {x : Str} : isiB (.str x) "str" = true := rfl
theorem isi_str_list {x : Str} : isiB (.str x) "list" = false := rfl
theorem isi_str_tuple {x : Str} : isiB (.str x) "tuple" = false := rfl
theorem isi_str_dict {x : Str} : isiB (.str x) "dict" = false := rfl
theorem isi_lst_int {xs : List PyData} : isiB (.list xs) "int" = false := rfl
theorem isi_lst_bool {xs : List PyData} : isiB (.list xs) "bool" = false := rfl
theorem isi_lst_str {xs : List PyData} : isiB (.list xs) "str" = false := rfl
theorem isi_lst_list {xs : List PyData} : isiB (.list xs) "list" = true := rfl
theorem isi_lst_tuple {xs : List PyData} : isiB (.list xs) "tuple" = false := rfl
theorem isi_lst_dict {xs : List PyData} : isiB (.list xs) "dict" = false := rfl
theorem isi_tup_int {xs : List PyData} : isiB (.tuple xs) "int" = false := rfl
theorem isi_tup_bool {xs : List PyData} : isiB (.tuple xs) "bool" = false := rfl
theorem isi_tup_str {xs : List PyData} : isiB (.tuple xs) "str" = false := rfl
theorem isi_tup_list {xs : List PyData} : isiB (.tuple xs) "list" = false := rfl
theorem isi_tup_tuple {xs : List PyData} : isiB (.tuple xs) "tuple" = true := rfl
theorem isi_tup_dict {xs : List PyData} : isiB (.tuple xs) "dict" = false := rfl
theorem isi_dct_int : isiB (.dict []) "int" = false := rfl
theorem isi_dct_bool : isiB (.dict []) "bool" = false := rfl
theorem isi_dct_str : isiB (.dict []) "str" = false := rfl
theorem isi_dct_list : isiB (.dict []) "list" = false := rfl
theorem isi_dct_tuple : isiB (.dict []) "tuple" = false := rfl
theorem isi_dct_dict : isiB (.dict []) "dict" = true := rfl
end DL

namespace DL
variable {T : List (PySem.Addr × PySem.Str)} {Z : Zx T}
open PySem PySem.Spec PyProof.Rows L2
open Evl (Ex)
section
variable {X : Cx} {a b e : Expr} {es : List Expr} {we wa wb : DE} {was : DA} {pos p p1 p2 p3 p0 : Pos} {K : PySem.W.Frag} {m : Nat}
def rEmp (K : PySem.W.Frag) (n : Bool) : R2 := fun x y H Q => ∃ a b xs, x = .ref a ∧ y = .ref b ∧ ((SqL K H a xs ∧ SqL K H b []) ∨ (SqT K H a xs ∧ SqT K H b [])) ∧ Q (.bl (xs.isEmpty != n)) H
theorem op_empE (hu : X.A.units + 64 < cLine) : OpR X (compareOp .Eq) (rEmp X.K false) := by
  intro pins s σ H x y v u Q I rx ry h
  obtain ⟨a, b, xs, rfl, rfl, h, q⟩ := h
  cases rx
  cases ry
  have hu2 : X.A.units < cLine := by omega
  rcases h with ⟨h1, h2⟩ | ⟨h1, h2⟩
  · obtain ⟨its, r1, t1, _⟩ := I.list h1
    obtain ⟨its2, r2, t2, _⟩ := I.list h2
    cases r2
    cases r1 with
    | nil => exact SeqAt.RcAt.lists (e := fun _ => true) t1.isList t2.isList rfl hu2 (fun j h1 => absurd h1 (by simp)) _ _ _ _ ⟨.bl true, H, I, rfl, q⟩
    | cons _ _ => exact SeqAt.RcAt.lists_lengths t1.isList t2.isList (by simp) hu2 _ _ _ _ ⟨.bl false, H, I, rfl, q⟩
  · obtain ⟨its, r1, t1, _⟩ := I.tuple h1
    obtain ⟨its2, r2, t2, _⟩ := I.tuple h2
    cases r2
    refine SeqAt.RcAt.tuples (e := fun _ => true) t1 t2 hu2 (fun j h1 h2 => absurd h2 (by simp)) _ _ _ _ ?_
    cases r1 with
    | nil => exact ⟨.bl true, H, I, rfl, q⟩
    | cons _ _ => exact ⟨.bl false, H, I, rfl, q⟩
theorem op_empN (hu : X.A.units + 64 < cLine) : OpR X (compareOp .NotEq) (rEmp X.K true) := by
  intro pins s σ H x y v u Q I rx ry h
  obtain ⟨a, b, xs, rfl, rfl, h, q⟩ := h
  cases rx
  cases ry
  have hu2 : X.A.units < cLine := by omega
  rcases h with ⟨h1, h2⟩ | ⟨h1, h2⟩
  · obtain ⟨its, r1, t1, _⟩ := I.list h1
    obtain ⟨its2, r2, t2, _⟩ := I.list h2
    cases r2
    cases r1 with
    | nil => exact SeqAt.RcNeAt.lists (e := fun _ => true) t1.isList t2.isList rfl hu2 (fun j h1 => absurd h1 (by simp)) _ _ _ _ ⟨.bl false, H, I, rfl, q⟩
    | cons _ _ => exact SeqAt.RcNeAt.lists_lengths t1.isList t2.isList (by simp) hu2 _ _ _ _ ⟨.bl true, H, I, rfl, q⟩
  · obtain ⟨its, r1, t1, _⟩ := I.tuple h1
    obtain ⟨its2, r2, t2, _⟩ := I.tuple h2
    cases r2
    refine SeqAt.RcNeAt.tuples (e := fun _ => true) t1 t2 hu2 (fun j h1 h2 => absurd h2 (by simp)) _ _ _ _ ?_
    cases r1 with
    | nil => exact ⟨.bl false, H, I, rfl, q⟩
    | cons _ _ => exact ⟨.bl true, H, I, rfl, q⟩
/-- x == [] of a list, x == () of a tuple -/
def oEmp (n : Bool) (x y : PyData) (P : PyData → Prop) : Prop := match x, y with
  | .list xs, .list [] => P (.bool (xs.isEmpty != n))
  | .tuple xs, .tuple [] => P (.bool (xs.isEmpty != n))
  | _, _ => False
theorem drs_empty {F : Hp} {vs : List V} {ds : List PyData} (r : DRs K F vs ds) : vs.isEmpty = ds.isEmpty := by cases r <;> rfl
theorem opd_emp {n : Bool} : OpD K (rEmp K n) (oEmp n) := by
  intro _ _ g F env σ H vx vy dx dy P Q k rx ry p q
  unfold oEmp at p
  split at p
  · obtain ⟨a, us, rfl, h1, h2⟩ := rx.inv_lst
    obtain ⟨b, ws, rfl, h3, h4⟩ := ry.inv_lst
    cases h4
    exact ⟨a, b, us, rfl, rfl, .inl ⟨(h1.mono k.fh).sq, (h3.mono k.fh).sq⟩, q _ _ F H (by rw [drs_empty h2]; exact p) (Ex.refl F) k (.bl _)⟩
  · obtain ⟨a, us, rfl, h1, h2⟩ := rx.inv_tup
    obtain ⟨b, ws, rfl, h3, h4⟩ := ry.inv_tup
    cases h4
    exact ⟨a, b, us, rfl, rfl, .inr ⟨Evl.ex_t k.fh h1, Evl.ex_t k.fh h3⟩, q _ _ F H (by rw [drs_empty h2]; exact p) (Ex.refl F) k (.bl _)⟩
  · exact p.elim
theorem q_empL {n : Bool} {xs : List PyData} {P : PyData → Prop} : oEmp n (.list xs) (.list []) P = P (.bool (xs.isEmpty != n)) := rfl
theorem q_empT {n : Bool} {xs : List PyData} {P : PyData → Prop} : oEmp n (.tuple xs) (.tuple []) P = P (.bool (xs.isEmpty != n)) := rfl
/-- x == [] of a name's own cell -/
abbrev dEmpC (n : Bool) (i : Nat) (env : List SD) (P : PyData → List SD → Prop) : Prop := match env[i]? with
  | some (.cel _ xs) => P (.bool (xs.isEmpty != n)) env
  | _ => False
theorem lift_empC {n : Bool} {i : Nat} {σ : L2.St} {H : Hp} {Q : VK} (h : liftE K Z (dEmpC n i) σ H Q) : tOp (rEmp K n) (tVar i) (tLst tNil) σ H Q := by
  obtain ⟨g, F, env, P, k, w, q⟩ := h
  unfold dEmpC at w
  split at w
  · rename_i p xs e
    obtain ⟨a0, vs, h1, h2, h3, h4, h5⟩ := k.cel i p xs e
    refine ⟨_, h1, Nat.zero_le _, fun p hp => ?_⟩
    have ne : a0 ≠ p := ne_of_none h3 hp
    refine ⟨a0, p, vs, rfl, rfl, .inl ⟨SqL.of (by rw [upd_ne ne]; exact h3), SqL.of upd_same⟩, ?_⟩
    rw [drs_empty h4]
    exact q _ env _ _ _ w (Ex.refl F) (k.extra hp) (.bl _)
  · exact w.elim
variable {x : Str}
theorem dempC (i : Nat) {pl : Pos} (hu : X.A.units + 64 < cLine) (hN : X.N[i]? = some x := by rfl) (hv : Vis X.env.scope x := by first | exact Or.inl rfl | exact Or.inr (Or.inl rfl) | exact Or.inr (Or.inr rfl)) (hd : (x == ("__debug__" : Str)) = false := by decide)
    (hcd : (x == ("__classdict__" : Str)) = false := by decide) : PE X (.Compare (.Name x p0) [.Eq] [.List [] pl] pos) (liftE X.K Z (dEmpC false i)) := PE.of (pe_cmpR (op_empE hu) (pe_var hN hv hd hcd) (pe_lst pa_nil) (nomark _)) fun _ _ _ h => lift_empC h
theorem tempCn (i : Nat) {pl : Pos} (hu : X.A.units + 64 < cLine) (hN : X.N[i]? = some x := by rfl) (hv : Vis X.env.scope x := by first | exact Or.inl rfl | exact Or.inr (Or.inl rfl) | exact Or.inr (Or.inr rfl)) (hd : (x == ("__debug__" : Str)) = false := by decide)
    (hcd : (x == ("__classdict__" : Str)) = false := by decide) : PT X (.Compare (.Name x p0) [.NotEq] [.List [] pl] pos) (liftT X.K Z (dTest (dEmpC true i))) := PT.of (pt_cmpR (op_empN hu) (pe_var hN hv hd hcd) (pe_lst pa_nil) (nomark _)) fun _ _ _ h => lift_test (fun _ _ _ h => lift_empC h) h
def oIsB (n t : Bool) (x : PyData) (P : PyData → Prop) : Prop := match x with
  | .bool b => P (.bool (decide (b = t) != n))
  | _ => False
theorem q_isB {n t b : Bool} {P : PyData → Prop} : oIsB n t (.bool b) P = P (.bool (decide (b = t) != n)) := rfl
/-- a new thing, its object known -/
theorem PE.known {t : TE} (h : PE X e t) : PE X e (fun σ H Q => t σ H fun v H1 => ∃ a u, v = .ref a ∧ H1 a = some u ∧ Mut (some u) ∧ ∀ od, Q v (upd H1 a (.frz od u))) := ⟨fun pins s σ H Q I hw => by
  refine thn (h.run pins s σ H _ I hw) fun v s1 ⟨x, H1, I1, r, a, u, ea, eu, mu, q⟩ => ?_
  obtain ⟨od, I2⟩ := I1.lock eu mu
  exact ⟨x, _, I2, r, q od⟩⟩
end

section
variable {prog : Program} {w : World} {A : Around} {E : Value → Shared → Prop} {s : Shared}
theorem fm_congr {α β : Type} {f g : α → Option β} : ∀ {l : List α}, (∀ m ∈ l, f m = g m) → l.filterMap f = l.filterMap g
  | [], _ => rfl
  | a :: l, h => by
    rw [List.filterMap_cons, List.filterMap_cons, h a List.mem_cons_self, fm_congr fun m hm => h m (List.mem_cons_of_mem _ hm)]
end
end DL

namespace DL
variable {T : List (PySem.Addr × PySem.Str)} {Z : Zx T}
open PySem PySem.Spec PyProof.Rows L2
open Evl (Ex)
section
variable {X : Cx} {a b e : Expr} {es : List Expr} {we wa wb : DE} {was : DA} {pos p p1 p2 p3 p0 : Pos} {K : PySem.W.Frag} {m : Nat}
def oRevA (x : PyData) (P : PyData → Prop) : Prop := match x with
  | .list ds => P (.list ds.reverse)
  | .tuple ds => P (.tuple ds.reverse)
  | _ => False
theorem q_revL {ds : List PyData} {P : PyData → Prop} : oRevA (.list ds) P = P (.list ds.reverse) := rfl
theorem q_revT {ds : List PyData} {P : PyData → Prop} : oRevA (.tuple ds) P = P (.tuple ds.reverse) := rfl
end
end DL

namespace DL
variable {T : List (PySem.Addr × PySem.Str)} {Z : Zx T}
open PySem PySem.Spec PyProof.Rows L2
open Evl (Ex)
section
variable {X : Cx} {a b e : Expr} {es : List Expr} {we wa wb : DE} {was : DA} {pos p p1 p2 p3 p0 : Pos} {K : PySem.W.Frag} {m : Nat}
/-- [e] * n, a new cell -/
def repQ (x y : PyData) (K : List PyData → Prop) : Prop := match y with
  | .int k => (-1000000 ≤ k ∧ k ≤ 100000) ∧ K (List.replicate k.toNat x)
  | _ => False
theorem q_rep {x : PyData} {k : Int} {K : List PyData → Prop} : repQ x (.int k) K = ((-1000000 ≤ k ∧ k ≤ 100000) ∧ K (List.replicate k.toNat x)) := rfl
theorem DRs.rep {F : Hp} {v : V} {d : PyData} (r : DR K F v d) : ∀ n : Nat, DRs K F (List.replicate n v) (List.replicate n d)
  | 0 => .nil
  | n + 1 => by rw [List.replicate_succ, List.replicate_succ]; exact .cons r (DRs.rep r n)
end
theorem Dn.imp {P : Program} {w : World} {K : PySem.W.Frag} {mg : Str → Option Value} {base : Heap} {x : Str} {k : Nat} {ps : List Str} {S S' : DSp} (D : Dn P w K mg base T x k ps S) (h : ∀ as Q, S' as Q → S as Q) : Dn P w K mg base T x k ps S' :=
  ⟨let ⟨fd, F, b⟩ := D.ex; ⟨fd, F.imp h, b⟩, D.glo, D.kp⟩
theorem FnG.never {P : Program} {w : World} {K : PySem.W.Frag} {mg : Str → Option Value} {base : Heap} {k : Nat} {f : Addr} {fd : FuncData} {ps : List Str} {S : DSp} (h : ∀ as Q, ¬ S as Q) : FnG P w K mg base T k f fd ps S :=
  ⟨fun as Q q => absurd q (h as Q), fun _ _ _ _ _ _ _ _ _ _ _ _ _ ⟨_, as, _, _, q, _⟩ => absurd q (h as _)⟩
end DL

namespace DL
variable {T : List (PySem.Addr × PySem.Str)} {Z : Zx T}
open PySem PySem.Spec PyProof.Rows L2
open Evl (Ex)
section
variable {X : Cx} {a b e : Expr} {wa wb : DE} {pos : Pos} {K : PySem.W.Frag}
abbrev oFd : D2 := oIc (fun _ j => j ≠ 0 ∧ Sz j) fun i j => .int (i.fdiv j)
theorem q_fd {i j : Int} {P : PyData → Prop} : oFd (.int i) (.int j) P = ((j ≠ 0 ∧ Sz j) ∧ P (.int (i.fdiv j))) := rfl
end
end DL

namespace DL
variable {T : List (PySem.Addr × PySem.Str)} {Z : Zx T}
open PySem PySem.Spec PyProof.Rows L2
open Evl (Ex)
section
variable {X : Cx} {a b e : Expr} {es : List Expr} {pos p : Pos} {was : DA} {wa wb we : DE} {K : PySem.W.Frag}
def max3 (i j k : Int) : Int := max (max i j) k
def min3 (i j k : Int) : Int := min (min i j) k
def nMax3 (xs : List PyData) (P : PyData → Prop) : Prop := match xs with
  | [.int i, .int j, .int k] => P (.int (max3 i j k))
  | _ => False
def nMin3 (xs : List PyData) (P : PyData → Prop) : Prop := match xs with
  | [.int i, .int j, .int k] => P (.int (min3 i j k))
  | _ => False
theorem q_max3 {i j k : Int} {P : PyData → Prop} : nMax3 [.int i, .int j, .int k] P = P (.int (max3 i j k)) := rfl
theorem q_min3 {i j k : Int} {P : PyData → Prop} : nMin3 [.int i, .int j, .int k] P = P (.int (min3 i j k)) := rfl
/-- the figures of a whole number -/
@[irreducible] def shInt (i : Int) : Str := toString i
def nStr (xs : List PyData) (P : PyData → Prop) : Prop := match xs with
  | [.int i] => i.natAbs < 10 ^ 250 ∧ P (.str (shInt i))
  | _ => False
theorem q_str {i : Int} {P : PyData → Prop} : nStr [.int i] P = (i.natAbs < 10 ^ 250 ∧ P (.str (shInt i))) := rfl
def catQ (xs : List PyData) (y : PyData) (K : List PyData → Prop) : Prop := match y with
  | .list ys => xs.length + ys.length ≤ 100000 ∧ K (xs ++ ys)
  | _ => False
theorem q_cat {xs ys : List PyData} {K : List PyData → Prop} : catQ xs (.list ys) K = (xs.length + ys.length ≤ 100000 ∧ K (xs ++ ys)) := rfl
/-- a list, as a row of items -/
def catN (x y : PyData) (K : List PyData → Prop) : Prop := match x with
  | .list xs => catQ xs y K
  | _ => False
theorem q_catN {xs ys : List PyData} {K : List PyData → Prop} : catN (.list xs) (.list ys) K = (xs.length + ys.length ≤ 100000 ∧ K (xs ++ ys)) := rfl
def scalQ (d : PyData) (p : Prop) : Prop := match d with
  | .none => p
  | .bool _ => p
  | .int _ => p
  | .str _ => p
  | _ => False
theorem q_scalN {p : Prop} : scalQ .none p = p := rfl
theorem q_scalB {b : Bool} {p : Prop} : scalQ (.bool b) p = p := rfl
theorem q_scalI {i : Int} {p : Prop} : scalQ (.int i) p = p := rfl
theorem q_scalS {x : Str} {p : Prop} : scalQ (.str x) p = p := rfl
def frz1 : SD → SD
  | .cel _ xs => .dat (.list xs)
  | .dic _ => .un
  | s => s
def frz (env : List SD) : List SD := env.map frz1
theorem Ok.later {g : Gx Z} {F : Hp} {env : List SD} {σ : L2.St} {H H' : Hp} (k : Ok K g F env σ H) (e : Frm T H (fun _ => True) H') (ef : Ex F H') : Ok K g F env σ H' where
  len := k.len
  fh := ef
  dat := k.dat
  cel := fun i q xs h => by
    obtain ⟨a, vs, h1, h2, h3, h4, h5⟩ := k.cel i q xs h
    exact ⟨a, vs, h1, h2, (e.stay _ _ h3 trivial).lst, h4, h5⟩
  sep := k.sep
  pin := k.pin
  frame := k.frame.trans e fun _ _ _ _ => trivial
  newF := k.newF
  oldF := k.oldF
  prot := fun a u h => by
    obtain ⟨z1, z2, z3⟩ := k.prot a u h
    exact ⟨(e.stay _ _ z1 trivial).same (g.pl a u h), z2, z3⟩
  dic := k.dic.keep (Ex.refl F) (fun _ _ _ z => z) fun a xs h n => ⟨n, (e.stay _ _ h trivial).ext.trans h.symm⟩
/-- 0, 1, .. beside the items -/
def enumD : Nat → List PyData → List PyData
  | _, [] => []
  | n, x :: xs => .tuple [.int (n : Nat), x] :: enumD (n + 1) xs
def enumQ (ds : List PyData) (K : List PyData → Prop) : Prop := match ds with
  | [.list xs] => At (enumD 0 xs) K
  | [.tuple xs] => At (enumD 0 xs) K
  | _ => False
theorem q_enumL {xs : List PyData} {K : List PyData → Prop} : enumQ [.list xs] K = K (enumD 0 xs) := At.eq
theorem q_enumT {xs : List PyData} {K : List PyData → Prop} : enumQ [.tuple xs] K = K (enumD 0 xs) := At.eq
end
end DL

namespace DL
variable {T : List (PySem.Addr × PySem.Str)} {Z : Zx T}
open PySem PySem.Spec PyProof.Rows L2
open Evl (Ex)
section
variable {X : Cx} {a b e : Expr} {es : List Expr} {pos p : Pos} {was : DA} {wa wb we : DE} {K : PySem.W.Frag}
@[irreducible] def memD (x : PyData) (ds : List PyData) : Bool := ds.any fun z => PyData.eqv z x
theorem memD_raw {x : PyData} {ds : List PyData} : memD x ds = ds.any fun z => PyData.eqv z x := by
  unfold memD
  rfl
/-- a text within a text -/
@[irreducible] def inStr (a z : Str) : Bool := !(Builtin.Str.occurrences z a 0 z.length 1).isEmpty
def rIn2 (K : PySem.W.Frag) (n : Bool) : R2 := fun x y H Q => (∃ d ds, Dp K H x d ∧ (Dp K H y (.list ds) ∨ Dp K H y (.tuple ds)) ∧ SeqAt.shaped d = true ∧ SeqAt.shaped (.list ds) = true ∧ Q (.bl (memD d ds != n)) H)
theorem op_in2 (hu : X.A.units + 65 < cLine) : OpR X (compareOp .In) (rIn2 X.K false) := by
  intro pins s σ H x y v u Q I rx ry h
  obtain ⟨d, ds, hd, he, sd, se, q⟩ := h
  obtain ⟨as, r1⟩ := Dp.reads I d x v hd rx
  rw [memD_raw, show ∀ b : Bool, (b != false) = b by decide] at q
  rcases he with he | he
  · obtain ⟨bs, r2⟩ := Dp.reads I (.list ds) y u he ry
    exact SeqAt.in_list_reads r2 r1 (SeqAt.canLay_of_shaped se) (SeqAt.canLay_of_shaped sd) (room_in_shaped sd hu) ⟨.bl _, H, I, rfl, q⟩
  · obtain ⟨bs, r2⟩ := Dp.reads I (.tuple ds) y u he ry
    exact SeqAt.in_tuple_reads r2 r1 (SeqAt.canLay_of_shaped se) (SeqAt.canLay_of_shaped sd) (room_in_shaped sd hu) ⟨.bl _, H, I, rfl, q⟩
def rInA (K : PySem.W.Frag) : R2 := fun x y H Q => rIn2 K false x y H Q ∨ ∃ i j, x = .str i ∧ y = .str j ∧ Q (.bl (!(Builtin.Str.occurrences j i 0 j.length 1).isEmpty)) H
theorem op_inA (hu : X.A.units + 65 < cLine) : OpR X (compareOp .In) (rInA X.K) := OpR.or (op_in2 hu) op_in_str
/-- may be looked for -/
def shp (x : PyData) (ds : List PyData) : Prop := SeqAt.shaped x = true ∧ SeqAt.shaped (.list ds) = true
def oMem (n : Bool) (x y : PyData) (P : PyData → Prop) : Prop := match y with
  | .list ds => shp x ds ∧ P (.bool (memD x ds != n))
  | .tuple ds => shp x ds ∧ P (.bool (memD x ds != n))
  | .str z => (match x with
    | .str a => P (.bool (inStr a z != n))
    | _ => False)
  | _ => False
def oIn (x y : PyData) (P : PyData → Prop) : Prop := oMem false x y P
def oNin (x y : PyData) (P : PyData → Prop) : Prop := oMem true x y P
theorem q_inL {x : PyData} {ds : List PyData} {P : PyData → Prop} : oIn x (.list ds) P = (shp x ds ∧ P (.bool (memD x ds != false))) := rfl
theorem q_inT {x : PyData} {ds : List PyData} {P : PyData → Prop} : oIn x (.tuple ds) P = (shp x ds ∧ P (.bool (memD x ds != false))) := rfl
theorem q_inS {a z : Str} {P : PyData → Prop} : oIn (.str a) (.str z) P = P (.bool (inStr a z != false)) := rfl
theorem q_ninL {x : PyData} {ds : List PyData} {P : PyData → Prop} : oNin x (.list ds) P = (shp x ds ∧ P (.bool (memD x ds != true))) := rfl
theorem q_ninT {x : PyData} {ds : List PyData} {P : PyData → Prop} : oNin x (.tuple ds) P = (shp x ds ∧ P (.bool (memD x ds != true))) := rfl
theorem q_ninS {a z : Str} {P : PyData → Prop} : oNin (.str a) (.str z) P = P (.bool (inStr a z != true)) := rfl
theorem mem_reads {g : Gx Z} {F : Hp} {env : List SD} {σ : L2.St} {H : Hp} (k : Ok K g F env σ H) {vx vy : V} {x : PyData} {ds : List PyData} {n : Bool} {Q : VK} (rx : DR K F vx x) (ry : DR K F vy (.list ds) ∨ DR K F vy (.tuple ds)) (h : shp x ds) (q : Q (.bl (memD x ds != n)) H) :
    rIn2 K n vx vy H Q := by
  refine ⟨x, ds, DR.dp (drH k rx) (dict_of_shaped h.1), ?_, h.1, h.2, q⟩
  have z : PyData.hasDictAll ds = false := by simpa [PyData.hasDict] using dict_of_shaped h.2
  rcases ry with ry | ry
  · exact .inl (DR.dp (drH k ry) (by simpa [PyData.hasDict] using z))
  · exact .inr (DR.dp (drH k ry) (by simpa [PyData.hasDict] using z))
theorem opd_in : OpD K (rInA K) oIn := by
  intro _ _ g F env σ H vx vy dx dy P Q k rx ry p q
  unfold oIn oMem at p
  split at p
  · exact .inl (mem_reads k rx (.inl ry) p.1 (q _ _ F H p.2 (Ex.refl F) k (.bl _)))
  · exact .inl (mem_reads k rx (.inr ry) p.1 (q _ _ F H p.2 (Ex.refl F) k (.bl _)))
  · split at p
    · rename_i a
      cases rx.inv_str
      cases ry.inv_str
      refine .inr ⟨_, _, rfl, rfl, q _ _ F H p (Ex.refl F) k ?_⟩
      unfold inStr
      rw [show ∀ b : Bool, (b != false) = b by decide]
      exact .bl _
    · exact p.elim
  · exact p.elim
theorem _root_.L2.Room.u65 {k : Nat} {A : Around} (r : Room k A) : A.units + 65 < cLine := by have := r.un; omega
theorem din {k : Nat} (hr : Room k X.A) (ha : PE X a (liftE X.K Z wa)) (hb : PE X b (liftE X.K Z wb)) (hm : behindInMarks .In b = false := by rfl) : PE X (.Compare a [.In] [b] pos) (liftE X.K Z (dOp oIn wa wb)) := dcmp (op_inA hr.u65) opd_in ha hb hm
end
end DL

namespace DL
variable {T : List (PySem.Addr × PySem.Str)} {Z : Zx T}
open PySem PySem.Spec PyProof.Rows L2
structure Sm (b k : Nat) (d : PyData) : Prop where
  rp : rp d = true
  bulk : d.bulk ≤ b
  depth : d.depth ≤ k
theorem Sm.mono {b k b' k' : Nat} {d : PyData} (h : Sm b k d) (hb : b ≤ b' := by omega) (hk : k ≤ k' := by omega) : Sm b' k' d := ⟨h.rp, Nat.le_trans h.bulk hb, Nat.le_trans h.depth hk⟩
theorem sm_all {b k : Nat} : ∀ {xs : List PyData}, (∀ x ∈ xs, Sm b k x) → rpAll xs = true ∧ PyData.bulkAll xs ≤ xs.length * (b + 1) ∧ PyData.depthAll xs ≤ k
  | [], _ => ⟨by simp [rpAll], by simp [PyData.bulkAll], by simp [PyData.depthAll]⟩
  | x :: xs, h => by
    obtain ⟨h1, h2, h3⟩ := sm_all (xs := xs) fun y hy => h y (List.mem_cons_of_mem _ hy)
    have hx := h x List.mem_cons_self
    refine ⟨?_, ?_, ?_⟩
    · rw [rpAll, hx.rp, h1]; rfl
    · rw [PyData.bulkAll, List.length_cons, Nat.add_mul]
      have := hx.bulk
      omega
    · rw [PyData.depthAll]
      have := hx.depth
      omega
theorem Sm.tup {n b k : Nat} {xs : List PyData} (hl : xs.length ≤ n) (h : ∀ x ∈ xs, Sm b k x) : Sm (n * (b + 1)) (k + 1) (.tuple xs) := by
  obtain ⟨h1, h2, h3⟩ := sm_all h
  refine ⟨by simpa only [DL.rp] using h1, ?_, ?_⟩
  · rw [PyData.bulk]
    exact Nat.le_trans h2 (Nat.mul_le_mul_right _ hl)
  · rw [PyData.depth]
    omega
theorem Sm.lst {n b k : Nat} {xs : List PyData} (hl : xs.length ≤ n) (h : ∀ x ∈ xs, Sm b k x) : Sm (n * (b + 1)) (k + 1) (.list xs) := by
  obtain ⟨h1, h2, h3⟩ := sm_all h
  refine ⟨by simpa only [DL.rp] using h1, ?_, ?_⟩
  · rw [PyData.bulk]
    exact Nat.le_trans h2 (Nat.mul_le_mul_right _ hl)
  · rw [PyData.depth]
    omega
theorem Sm.int {i : Int} (h : i.natAbs < 10 ^ 250) (b k : Nat) : Sm b k (.int i) := ⟨by simpa only [DL.rp, decide_eq_true_eq] using h, by rw [PyData.bulk]; omega, by rw [PyData.depth]; omega⟩
theorem Sm.bool {t : Bool} (b k : Nat) : Sm b k (.bool t) := ⟨rfl, by rw [PyData.bulk]; omega, by rw [PyData.depth]; omega⟩
theorem Sm.none (b k : Nat) : Sm b k .none := ⟨rfl, by rw [PyData.bulk]; omega, by rw [PyData.depth]; omega⟩
end DL

namespace DL
variable {T : List (PySem.Addr × PySem.Str)} {Z : Zx T}
open PySem PySem.Spec PyProof.Rows L2
open Evl (Ex)

section
variable {K : PySem.W.Frag} {F H : Hp} {b : Addr} {us us' : List V}
end
section
variable {X : Cx} {e b b2 : Expr} {we wb wb2 : DE} {wx : DX} {m : Nat} {pos : Pos}
end
section
variable {K : PySem.W.Frag} {F H : Hp} {vs : List V} {as : List SD}
def atB : PyData → Bool
  | .none => true
  | .bool _ => true
  | .int _ => true
  | .str _ => true
  | _ => false
def atoms : List SD → Bool
  | [] => true
  | .un :: r => atoms r
  | .dat d :: r => atB d && atoms r
  | .cel _ xs :: r => xs.all atB && atoms r
  | .dic _ :: _ => false
theorem atoms_get : ∀ {env : List SD} {j : Nat} {s : SD}, atoms env = true → env[j]? = some s → match s with | .un => True | .dat d => atB d = true | .cel _ xs => xs.all atB = true | .dic _ => False
  | [], j, s, _, e => by simp at e
  | .un :: r, 0, s, h, e => by simp at e; subst e; trivial
  | .dat d :: r, 0, s, h, e => by simp only [atoms, Bool.and_eq_true] at h; simp at e; subst e; exact h.1
  | .cel p xs :: r, 0, s, h, e => by simp only [atoms, Bool.and_eq_true] at h; simp at e; subst e; exact h.1
  | .dic _ :: r, _, s, h, e => by simp [atoms] at h
  | .un :: r, j + 1, s, h, e => atoms_get (env := r) (j := j) h (by simpa using e)
  | .dat d :: r, j + 1, s, h, e => by simp only [atoms, Bool.and_eq_true] at h; exact atoms_get (env := r) (j := j) h.2 (by simpa using e)
  | .cel p xs :: r, j + 1, s, h, e => by simp only [atoms, Bool.and_eq_true] at h; exact atoms_get (env := r) (j := j) h.2 (by simpa using e)
theorem at_any {F' : Hp} {v : V} {d : PyData} (h : atB d = true) (r : DR K F v d) : DR K F' v d := by
  cases r with
  | non => exact .non
  | bl b => exact .bl b
  | int i => exact .int i
  | str x => exact .str x
  | lst _ _ => cases h
  | tup _ _ => cases h
  | dct _ _ => cases h
  | row _ _ => cases h
  | exc _ _ => cases h
  | opq _ _ => cases h
theorem ats_any {F' : Hp} : ∀ {vs : List V} {ds : List PyData}, ds.all atB = true → DRs K F vs ds → DRs K F' vs ds
  | _, _, _, .nil => .nil
  | _, _, h, .cons x y => by
    simp only [List.all_cons, Bool.and_eq_true] at h
    exact .cons (at_any h.1 x) (ats_any h.2 y)
abbrev noH : Hp := fun _ => none
theorem ArgsOk.bare (ha : ArgsOk T K F H vs as) (h : atoms as = true) : ArgsOk T K noH H vs as where
  len := ha.len
  fh := fun a o e => by cases e
  dat := fun i d e => by
    obtain ⟨v, h1, h2⟩ := ha.dat i d e
    exact ⟨v, h1, at_any (atoms_get h e) h2⟩
  cel := fun i p xs e => by
    obtain ⟨rfl, a, us, h1, h2, h3, h4⟩ := ha.cel i p xs e
    exact ⟨rfl, a, us, h1, rfl, h3, ats_any (atoms_get h e) h4⟩
  sep := ha.sep
  nod := ha.nod
  tab := ha.tab
  nt := fun _ _ e => by cases e
/-- both -/
def joinH (F F' : Hp) : Hp := fun a => match F' a with
  | some o => some o
  | none => F a
theorem PostOk.back {F' H' : Hp} {as' : List SD} {v : V} {r : SD} (ha : ArgsOk T K F H vs as) (p : PostOk T K noH H vs as F' H' as' v r) : PostOk T K F H vs as (joinH F F') H' as' v r := by
  have e1 : Ex F (joinH F F') := fun a o e => by
    unfold joinH
    split
    · rename_i u z
      rcases p.newF a u z with y | y
      · cases y
      · have := ha.fh a o e
        rw [y] at this
        cases this
    · exact e
  have e2 : Ex F' (joinH F F') := fun a o e => by
    unfold joinH
    rw [e]
  have nn : ∀ {a : Addr}, F a = none → F' a = none → joinH F F' a = none := fun {a} h1 h2 => by
    unfold joinH
    rw [h2]
    exact h1
  have fr : ∀ (a : Addr) (o : HO), F a = some o → F' a = none → H' a = some o := fun a o e n => (p.frame.stay a o (ha.fh a o e) fun i q xs z y => by
    obtain ⟨_, b, us, y1, y2, _⟩ := ha.cel i q xs z
    rw [y] at y1
    cases y1
    rw [e] at y2
    cases y2).same fun ps z => ha.nt a ps (by rw [e, z])
  refine ⟨e1, fun a ps e => ?_, fun a o e => ?_, fun a o e => ?_, p.frame, fun i q xs a z y => ?_, ?_⟩
  · unfold joinH at e
    split at e
    · rename_i u z
      cases e
      exact p.nt a _ z
    · exact ha.nt a ps e
  · unfold joinH at e
    split at e
    · rename_i u z
      cases e
      exact p.fh a _ z
    · exact fr a o e ‹_›
  · unfold joinH at e
    split at e
    · rename_i u z
      exact .inr ((p.newF a u z).elim (fun w => by cases w) id)
    · exact .inl e
  · obtain ⟨ys, us, c1, c2, c3, c4⟩ := p.cel i q xs a z y
    obtain ⟨_, b, us0, y1, y2, _⟩ := ha.cel i q xs z
    rw [y] at y1
    cases y1
    exact ⟨ys, us, c1, nn y2 c2, c3, c4.mono e2⟩
  · have := p.res
    cases r with
    | un => exact this
    | dat d => exact DR.mono e2 this
    | dic _ => exact this.elim
    | cel b xs =>
      obtain ⟨a, us, h1, h2, h3, h4, h5⟩ := this
      refine ⟨a, us, h1, nn ?_ h2, h3, h4.mono e2, h5⟩
      cases z : F a with
      | none => rfl
      | some o =>
        have := ha.fh a o z
        rw [h5] at this
        cases this
end
section
variable {P : Program} {w : World} {K : PySem.W.Frag} {mg : Str → Option Value} {base : Heap}
end
end DL

namespace DL
variable {T : List (PySem.Addr × PySem.Str)} {Z : Zx T}
open PySem PySem.Spec PyProof.Rows L2
open Evl (Ex)
section
variable {X : Cx} {e : Expr} {wx : DX} {m : Nat} {pos : Pos}
def exQ (xs ys : List PyData) (K : List PyData → Prop) : Prop := xs.length + ys.length ≤ 100000 ∧ K (xs ++ ys)
theorem q_ex {xs ys : List PyData} {K : List PyData → Prop} : exQ xs ys K = (xs.length + ys.length ≤ 100000 ∧ K (xs ++ ys)) := rfl
abbrev dExt (i : Nat) (wx : DX) (E : DEnds) (env : List SD) : Prop := match env[i]? with
  | some (.cel _ _) => wx env fun r env1 => match r, env1[i]? with
    | .cel _ ys, some (.cel p xs) => exQ xs ys fun xs' => E.nx (env1.set i (.cel p xs'))
    | _, _ => False
  | _ => False
theorem sext (i : Nat) {x : Str} {p0 apos cpos : Pos} (he : PE X e (liftX X.K Z wx)) (hN : X.N[i]? = some x := by rfl) (hv : Vis X.env.scope x := by first | exact Or.inl rfl | exact Or.inr (Or.inl rfl) | exact Or.inr (Or.inr rfl)) (hd : (x == ("__debug__" : Str)) = false := by decide)
    (hcd : (x == ("__classdict__" : Str)) = false := by decide)
    (h1 : attributeBase (.Name x p0) "extend" X.env (eval (.Name x p0) X.env) = eval (.Name x p0) X.env := by rfl)
    (h2 : ((backTo cpos (starEach [e] X.env)).all (!·.1) && (backToKw cpos (keywordEach [] X.env)).all (·.1.isSome) && decide ([e].length + ([] : List Keyword).length + (if ([] : List Keyword).isEmpty then 0 else 1) < 30)) = true := by rfl)
    (h3 : (apos.endLine == cpos.line) = true := by rfl)
    (h4 : starEach [e] X.env = (false, eval e X.env) :: starEach [] X.env := by rfl) (h5 : (backTo cpos (starEach [] X.env)).any (·.1) = false := by rfl)
    (hs : swapsWith (.Call (.Attribute (.Name x p0) "extend" apos) [e] [] cpos) none pos.line X.env = pure false := by rfl) :
    PS X (.Expr (.Call (.Attribute (.Name x p0) "extend" apos) [e] [] cpos) pos) (liftS X.K Z m (dExt i wx)) :=
  PS.of (ps_expr (pe_bm PySem.F.plainAttrs_list PySem.F.slot_list_extend PySem.F.type_list_extend mt_extend (pe_var hN hv hd hcd) (pa_cons he pa_nil h4) h1 h2 h3 h4 h5) hs) fun D σ H ⟨g, F, env, P, k, w, q⟩ => by
    unfold dExt at w
    split at w
    · rename_i p' xs' ex
      obtain ⟨a0, us0, b1, _, b3, _⟩ := k.cel i p' xs' ex
      refine ⟨_, b1, .inl ⟨rfl, us0, SqL.of b3⟩, g, F, env, _, k, w, fun r env1 v F1 H1 p e1 k1 r1 => ?_⟩
      split at p
      · rename_i b2 ys p3 xs ex2
        obtain ⟨a1, us1, c1, c2, c3, c4, _⟩ := k1.cel i p3 xs ex2
        rw [b1] at c1
        cases c1
        obtain ⟨b, vs, rfl, hF, hH, r, h0, hpr, nw⟩ := r1
        exact ⟨a0, b, us1, vs, rfl, rfl, c3, hH, by rw [c4.length, r.length]; exact Evl.sz_of p.1, q.nx _ σ F1 _ p.2 e1 (k1.write ex2 b1 (c4.append r))⟩
      · exact p.elim
    · exact w.elim
end
end DL

namespace DL
variable {T : List (PySem.Addr × PySem.Str)} {Z : Zx T}
open PySem PySem.Spec PyProof.Rows L2
open Evl (Ex)
def FxSays (fx : List Fx) (K : PySem.W.Frag) : Prop := fx.all (fun f => f.ok K) = true
structure TopX (fa : List He.Fa) (fn : List He.FnD) (fx : List Fx) (K : PySem.W.Frag) (mg : Str → Option Value) : Prop extends Top fa fn K mg where
  more : FxSays fx K
theorem TopX.fact {fa : List He.Fa} {fn : List He.FnD} {fx : List Fx} {K : PySem.W.Frag} {mg : Str → Option Value} (T : TopX fa fn fx K mg) (i : Nat) {f : Fx} (h : fx[i]? = some f := by rfl) : f.ok K = true := List.all_eq_true.mp T.more f (List.mem_of_getElem? h)
/-- a tuple of whole numbers at the module's top -/
def CtT (K : PySem.W.Frag) (mg : Str → Option Value) (x : Str) (ns : List Int) : Prop := ∃ a, mg x = some (.ref a) ∧ tupB K a ns = true
theorem TopX.tup {fa : List He.Fa} {fn : List He.FnD} {fx : List Fx} {K : PySem.W.Frag} {mg : Str → Option Value} (T : TopX fa fn fx K mg) (x : Str) (ns : List Int) (i : Nat) (h : fx[i]? = some (.tup x ns) := by rfl) : CtT K mg x ns := by
  obtain ⟨hp, h1, h2⟩ := T.ns
  obtain ⟨c1, c2⟩ := He.ba (show (He.eqO (PySem.W.nsIn K mainGlobals x) (some (some (.ref (He.ga K x)))) && tupB K (He.ga K x) ns) = true from T.fact i h)
  exact ⟨_, PySem.W.mg_of h1 h2 (He.eqO_ok c1), c2⟩
/-- a class of refusals of the module -/
def CtE (K : PySem.W.Frag) (mg : Str → Option Value) (x : Str) : Prop := mg x = some (.ref (He.ga K x)) ∧ XcF K x
theorem TopX.exc {fa : List He.Fa} {fn : List He.FnD} {fx : List Fx} {K : PySem.W.Frag} {mg : Str → Option Value} (T : TopX fa fn fx K mg) (c : Str) (i : Nat) (h : fx[i]? = some (.exc c) := by rfl) : CtE K mg c := by
  obtain ⟨hp, h1, h2⟩ := T.ns
  obtain ⟨c1, c2⟩ := He.ba (show (He.eqO (PySem.W.nsIn K mainGlobals c) (some (some (.ref (He.ga K c)))) && xcB K c) = true from T.fact i h)
  exact ⟨PySem.W.mg_of h1 h2 (He.eqO_ok c1), xcB_ok c2⟩
/-- a text at the module's top -/
theorem TopX.txt {fa : List He.Fa} {fn : List He.FnD} {fx : List Fx} {K : PySem.W.Frag} {mg : Str → Option Value} (T : TopX fa fn fx K mg) (x z : Str) (i : Nat) (h : fx[i]? = some (.txt x z) := by rfl) : ∃ t, mg x = some (.str z t) := by
  obtain ⟨hp, h1, h2⟩ := T.ns
  exact He.str_ok h1 h2 (T.fact i h)
section
variable {X : Cx} {a b e : Expr} {we wa wb : DE} {pos : Pos}
theorem dtxt {x z : Str} (hm : ∃ t, X.mg x = some (.str z t)) (hg : Gl X x := by rfl) (hdb : (x == ("__debug__" : Str)) = false := by decide) : PE X (.Name x pos) (liftE X.K Z (dC (.str z))) := by
  obtain ⟨t, h⟩ := hm
  exact dglob (v := .str z) h ⟨t, rfl⟩ (fun _ => .str z) hg hdb
end
end DL

namespace DL
variable {T : List (PySem.Addr × PySem.Str)} {Z : Zx T}
open PySem PySem.Spec PyProof.Rows L2
open Evl (Ex)
section
variable {X : Cx} {a b e : Expr} {we wa wb : DE} {pos : Pos}
end
end DL

namespace DL
variable {T : List (PySem.Addr × PySem.Str)} {Z : Zx T}
open PySem PySem.Spec PyProof.Rows L2
open Evl (Ex)
/-- set() as it is laid -/
def nset (w : World) : Obj := { cls := .type "set", dict := none, data := .set #[] 0 (.fresh 0 0 (!w.params.followText "set-order")) }
section
variable {P : Program} {w : World} {A : Around} {E : Value → Shared → Prop} {s : Shared}
/-- what is left of set.__init__: from an empty set at S on -/
theorem set_fill {S l : Addr} {its : List Value} {ns : List Int} {R : Value → Shared → Prop} (hh : A.handled = none) (hS : s.heap.get? S = some (nset w)) (hl : s.heap.IsList l its.toArray) (hi : IntsAre its ns) (hb : ns.length + 1 < scanBound) (hne : l ≠ S)
    (h : ∀ (h' : Heap) (tk c : Nat), SetR w h' S (fun j => decide (j ∈ ns)) c → c ≤ ns.length → (∀ b o, b ≠ S → s.heap.get? b = some o → h'.get? b = some o) → R .none { s with heap := h', toks := tk }) :
    codeAny (model P w) A (.call (.builtin "set.__init__") ⟨[.ref S, .ref l], []⟩) (wants R E) s := by
  have ty : s.TypeIs (.ref S) "set" := ⟨_, hS, rfl⟩
  have lenI : its.length = ns.length := IntsAre.length hi
  have ltS : S < s.heap.objs.size := Heap.lt_size hS
  refine codeAny_call_builtin F.called_set.init.plain F.entry_set_init (check_set_init_1 ty ?_)
  obtain ⟨lo, elo, elc, ln, eld⟩ := id hl
  have ltl : l < s.heap.objs.size := Heap.lt_size elo
  obtain ⟨c0, d0, dt0, sl0⟩ := lo
  dsimp only at elc eld
  subst elc eld
  have n1 := F.sub_list_set
  have n2 := F.sub_list_frozenset
  have n3 : (Value.type "list" == Value.type "dict") = false := by decide
  unfold Builtin.«set.__init__» noKeywords Builtin.Frozenset.updateFrom
  generalize eP : pyIter = PI
  wp_walk
  subst eP
  refine wpAny_pyIter_list hl (wpAny_bind (wpAny_runValue ?_))
  have h3 : A.in1.in1.handled = none := by simp [hh]
  have nI : l ≠ s.heap.objs.size := Nat.ne_of_lt ltl
  have nf : S ∉ [s.heap.objs.size, l] := by
    simp only [List.mem_cons, List.not_mem_nil, or_false, not_or]
    exact ⟨Nat.ne_of_lt ltS, Ne.symm hne⟩
  have vals : ∀ (i : Nat) (v : Value), its.toArray[i]? = some v → ∃ k t, ns[i]? = some k ∧ v = .int k t := fun i v hv => by
    have hv2 : its[i]? = some v := by simpa using hv
    obtain ⟨t, e⟩ := PyProof.Rows.IntsAre.int_at hi i v hv2
    have hil : i < ns.length := by rw [← lenI]; exact (List.getElem?_eq_some_iff.mp hv2).1
    exact ⟨ns[i], t, List.getElem?_eq_getElem hil, by rw [e, List.getD_eq_getElem?_getD, List.getElem?_eq_getElem hil] <;> rfl⟩
  refine set_update_ints ((Walks.list h3 _ l nI its.toArray).toS) S nf ns (by simpa using lenI) hb vals (its.toArray.size - 0) 0 _ (by omega) (Nat.zero_le _) ⟨⟨_, Heap.get?_push_size _ rfl, rfl, rfl⟩, (hl.push _)⟩ ⟨0, Nat.le_refl 0, ?_⟩ ?_
  · exact setR_new_at (Heap.get?_push_of_some _ hS)
  · intro s' c hm hc hR
    obtain ⟨h', g2, d', tk', os'⟩ := s'
    have e1 : g2 = s.gens := hm.gens
    have e2 : d' = s.drawn := hm.drawn
    have e3 : os' = s.os := hm.os
    subst e1 e2 e3
    refine wpAny_pure (wpAny_pure ?_)
    refine h h' tk' c hR (by simpa [lenI] using hc) fun b o nb e => ?_
    exact hm.heap b o (by simp only [List.mem_cons, List.not_mem_nil, or_false, not_or]; exact ⟨nb, Nat.ne_of_lt (Heap.lt_size e)⟩) (Heap.get?_push_of_some _ e)
/-- set(xs) -/
theorem call_set_ints {l : Addr} {its : List Value} {ns : List Int} {Q : Value → Shared → Prop} (hh : A.handled = none) (hl : s.heap.IsList l its.toArray) (hi : IntsAre its ns) (hb : ns.length + 1 < scanBound)
    (h : ∀ (h' : Heap) (tk c : Nat), SetR w h' s.heap.objs.size (fun j => decide (j ∈ ns)) c → c ≤ ns.length → (∀ b o, s.heap.get? b = some o → h'.get? b = some o) → Q (.ref s.heap.objs.size) { s with heap := h', toks := tk }) :
    wpAny (model P w) A (call (.type "set") [.ref l]) Q E s := by
  have ll : l < s.heap.objs.size := by obtain ⟨_, e, _⟩ := id hl; exact Heap.lt_size e
  obtain ⟨mc, mt, q1⟩ := F.called_set.mro
  have q2 := F.called_set.made
  have q3 := F.called_set.sub
  have q4 := F.called_set.notType
  have q5 := F.called_set.canCreate
  have q6 := F.typeCall_set_1 (.ref l)
  apply wpAny_call
  apply codeAny_of_tree
  show wpAny _ _ (callAny (.type "set") _) _ _ _
  apply wpAny_pure
  refine ⟨Code.quiet_builtin _ (by decide +kernel), codeAny_builtin F.entry_type_call ?_⟩
  rw [show A.under _ = _ from Around.under_plain (weight_type_call_type "set" [.ref l] []) rfl]
  repeat any_goals first | assumption | wp_step
  refine codeAny_mono (code_set_led1 (.ref l) (E := E) (Q₁ := fun o z => o = .ref s.heap.objs.size ∧ z = { s with heap := s.heap.push (nset w) }) ⟨rfl, rfl⟩) fun r z hr => ?_
  match r, hr with
  | .error e, hr => exact hr
  | .ok (.ret o), hr =>
    obtain ⟨rfl, rfl⟩ := hr
    have w1 := F.called_set.init.lookup
    have w2 := F.called_set.init.bind (.ref s.heap.objs.size)
    have w3 : Shared.TypeIs { s with heap := s.heap.push (nset w) } (.ref s.heap.objs.size) "set" := ⟨_, Heap.get?_push_size _ rfl, rfl⟩
    repeat any_goals first | assumption | wp_step
    refine codeAny_mono (set_fill (E := E) (R := fun r z => r = .none ∧ ∃ h' tk c, z = { s with heap := h', toks := tk } ∧ SetR w h' s.heap.objs.size (fun j => decide (j ∈ ns)) c ∧ c ≤ ns.length ∧ ∀ b o, s.heap.get? b = some o → h'.get? b = some o) (by simp [hh]) (Heap.get?_push_size _ rfl) (hl.push _) hi hb (Nat.ne_of_lt ll) fun h' tk c a1 a2 a3 => ⟨rfl, h', tk, c, rfl, a1, a2, fun b o e => a3 b o (Nat.ne_of_lt (Heap.lt_size e)) (Heap.get?_push_of_some _ e)⟩) fun r2 z2 hz => ?_
    match r2, hz with
    | .error e, hz => exact hz
    | .ok (.ret u), hz =>
      obtain ⟨rfl, h', tk, c, rfl, a1, a2, a3⟩ := hz
      repeat any_goals first | assumption | wp_step
      exact h _ _ _ a1 a2 a3
    | .ok .next, hz => exact hz.elim
    | .ok .brk, hz => exact hz.elim
    | .ok .cont, hz => exact hz.elim
  | .ok .next, hr => exact hr.elim
  | .ok .brk, hr => exact hr.elim
  | .ok .cont, hr => exact hr.elim
end
def rSetI (w : World) (K : PySem.W.Frag) : List V → Hp → VK → Prop := fun xs H Q => ∃ (l : Addr) (ns : List Int), xs = [V.ref l] ∧ SqL K H l (ns.map V.int) ∧ ns.length + 1 < scanBound ∧ ∀ p c, H p = none → c ≤ ns.length → Q (.ref p) (upd H p (SetO w p (fun j => decide (j ∈ ns)) c))
theorem call_setI {X : Cx} (hc : X.calm = true) : CallR X (.type "set") (rSetI X.w X.K) := by
  intro pins s σ H xs us Q I r h
  obtain ⟨l, ns, rfl, hl, hb, q⟩ := h
  rw [Vals.ref1 r]
  obtain ⟨its, rv, pl, hz⟩ := I.list hl
  refine call_set_ints (I.ok.hd hc) pl.isList (ints_of_vals rv) hb fun h' tk c R hcn k => ?_
  exact ⟨.ref s.heap.objs.size, upd H s.heap.objs.size (SetO X.w s.heap.objs.size (fun j => decide (j ∈ ns)) c), I.laid (t' := tk) k (Nat.le_refl _) (setO_new R), rfl, q _ _ (I.hok.fresh (Nat.le_refl _)) hcn⟩
end DL

namespace DL
variable {T : List (PySem.Addr × PySem.Str)} {Z : Zx T}
open PySem PySem.Spec PyProof.Rows L2
open Evl (Ex)
/-- the members once each, rising -/
def sortSetQ (d : PyData) (K : List PyData → Prop) : Prop := match d with
  | .list ds => match intsD ds with
    | some ns => ns.length < 63 ∧ ∀ ms : List Int, ms.Pairwise (· < ·) → (∀ k, k ∈ ms ↔ k ∈ ns) → K (ms.map .int)
    | none => False
  | _ => False
section
variable {X : Cx} {a : Expr} {wa : DE} {p p2 pos pos2 : Pos}
end
end DL

namespace DL
variable {T : List (PySem.Addr × PySem.Str)} {Z : Zx T}
open PySem PySem.Spec PyProof.Rows L2
open Evl (Ex)
/-- what is told of a refusal: its class and the names' data -/
abbrev RD := Str → List SD → Prop
abbrev DSpX := List SD → (SD → List SD → Prop) → (Str → Prop) → Prop
abbrev XWish := Value → Option Addr → Hp → Prop
def spDX (T : List (Addr × Str)) (K : PySem.W.Frag) (S : DSpX) (vs : List V) (H : Hp) (Q : VK) (E : XWish) : Prop := ∃ (F : Hp) (as : List SD) (P : SD → List SD → Prop) (Ec : Str → Prop), ArgsOk T K F H vs as ∧ S as P Ec ∧
  (∀ r as' v F' H', P r as' → PostOk T K F H vs as F' H' as' v r → Q v H') ∧ ∀ c F' H', Ec c → XcF K c → PostOk T K F H vs as F' H' [] .non (.dat .none) → E (.ref (He.ga K c)) none H'
/-- no cell is handed in -/
def NoCel (as : List SD) : Prop := ∀ (i : Nat) (p : Bool) (xs : List PyData), as[i]? ≠ some (.cel p xs)
/-- as FnG, for a def that may refuse -/
structure FnX (P : Program) (w : World) (K : PySem.W.Frag) (mg : Str → Option Value) (base : Heap) (T : List (Addr × Str)) (k : Nat) (f : Addr) (fd : FuncData) (ps : List Str) (S : DSpX) : Prop where
  len : ∀ as Q E, S as Q E → as.length = ps.length
  nc : ∀ as Q E, S as Q E → NoCel as
  go : ∀ (A : Around) (outer : List Env) (s : Shared) (H : Hp) (args : Args) (us : List Value) (vs : List V) (Q : VK) (E : XWish), Room k A → A.guards = some [] → Env0 P w K mg base A outer s H →
    BindsTo s fd args (ps.zip us) → Vals vs us → spDX T K S vs H Q E → codeAny (model P w) A (.call (.ref f) args) (CR (L2N.CX P w) outer P w H s Q E) s
structure DnX (P : Program) (w : World) (K : PySem.W.Frag) (mg : Str → Option Value) (base : Heap) (T : List (Addr × Str)) (x : Str) (k : Nat) (ps : List Str) (S : DSpX) : Prop where
  ex : ∃ fd, FnX P w K mg base T k (He.ga K x) fd ps S ∧ Binds K fd ps []
  glo : mg x = some (.ref (He.ga K x))
  kp : PySem.W.keepIn K (.ref (He.ga K x)) = true
section
variable {X : Cx} {k : Nat} {f : Addr} {fd : FuncData} {ps : List Str} {S : DSpX} {x : Str} {p pos : Pos} {e : Expr} {es : List Expr} {was : DA} {Ed : RD}
end
section
variable {X : Cx} {m : Nat} {pos : Pos} {Ed : RD}
end
section
variable {X : Cx} {pins : List (Addr × Obj)} {σ : L2.St} {H : Hp} {s : Shared} {a C : Addr} {oe : Obj} {vs : Array Value}
theorem excAt_new (e : s.heap.get? a = some oe) (hz : L2N.Zn (.ref C) none oe) (hd : oe.data = .fields vs) {P : Program} {w : World} {H : Hp} : ObjOk P w H s.heap a (.ext (ExcAt C a)) :=
  ⟨⟨oe, vs, e, hz.1, hz.2.1, hd, hz.2.2 vs hd⟩, ⟨oe, e⟩, fun h1 h2 ⟨o, us, q1, q2, q3, q4⟩ kp => ⟨o, us, kp o q1, q2, q3, q4⟩⟩
theorem Inv.caught (I : Inv X pins σ H s) (hex : X.ex = []) (h0 : X.s_0.heap.get? a = none) (hp : ∀ q ∈ X.pn ++ pins, q.1 ≠ a) (e : s.heap.get? a = some oe) (hz : L2N.Zn (.ref C) none oe) (hd : oe.data = .fields vs) (na : H a = none)
    (nL : a ≠ X.env.locals) : Inv (X.suite a (X.pn ++ pins)) [] σ (upd H a (.ext (ExcAt C a))) s where
  ok := I.ok.suite _ _
  os := I.os
  bare := I.bare
  base := by
    have hxx : ∀ b : Addr, b ∉ X.ex := fun b hb => by rw [hex] at hb; cases hb
    refine ⟨I.base.keep, I.base.slot, fun b o q n z => ?_, I.base.there, fun b xs q => ?_, fun b o u q => ?_, fun b ps q => ?_⟩
    · have ne : b ≠ a := fun y => by
        subst y
        have q' : X.s_0.heap.get? b = some o := q
        rw [h0] at q'
        cases q'
      rw [upd_ne ne]
      exact I.base.free b o q n z
    · have r := I.base.tups b xs q
      rw [upd_ne (ne_of_none r na)]
      exact r
    · have r := I.base.frzs b o u q
      rw [upd_ne (ne_of_none r na)]
      exact r
    · obtain ⟨more, r⟩ := I.base.tbls b ps q
      exact ⟨more, by rw [upd_ne (ne_of_none r na)]; exact r⟩
  loc := I.loc
  cell := I.cell
  free := by
    show upd H a (.ext (ExcAt C a)) X.env.locals = none
    rw [upd_ne (Ne.symm nL)]
    exact I.free
  freeC := fun x c q => by
    obtain ⟨v, hv⟩ := I.cell x c q
    have ne : c ≠ a := fun y => by
      subst y
      obtain ⟨o, h1, h2⟩ := hv
      rw [e] at h1
      cases h1
      rw [hd] at h2
      cases h2
    rw [upd_ne ne]
    exact I.freeC x c q
  pin := fun q hq => by
    rw [List.append_nil] at hq
    obtain ⟨z1, z2, z3, z4, z5⟩ := I.pin q hq
    exact ⟨z1, by rw [upd_ne (hp q hq)]; exact z2, z3, z4, z5⟩
  hok := fun b o q => by
    by_cases hb : b = a
    · subst hb
      rw [upd_same] at q
      cases q
      exact excAt_new e hz hd
    · rw [upd_ne hb] at q
      exact (I.hok b o q).stay (fun c u _ z => z) (fun c z => by rw [upd_ne (ne_of_none z na)]; exact z) fun c xs z => by rw [upd_ne (ne_of_none z na)]; exact z
  len := I.len
end
end DL

namespace DL
variable {T : List (PySem.Addr × PySem.Str)} {Z : Zx T}
open PySem PySem.Spec PyProof.Rows L2
open Evl (Ex)
section
variable {K : PySem.W.Frag} {g : Gx Z} {F : Hp} {env : List SD} {σ : L2.St} {H : Hp}
end
section
variable {X : Cx} {m i : Nat} {pos pos' np : Pos} {n : Str} {body suite : List Stmt} {b₀ : Stmt} {wb : RD → DS} {ws : DS}
end
end DL

namespace DL
variable {T : List (PySem.Addr × PySem.Str)} {Z : Zx T}
open PySem PySem.Spec PyProof.Rows L2
open Evl (Ex)
section
variable {P : Program} {w : World} {K : PySem.W.Frag} {mg : Str → Option Value} {base : Heap}
end
/-- where nothing is refused, such a def is a plain one -/
theorem DnX.calm {P : Program} {w : World} {K : PySem.W.Frag} {mg : Str → Option Value} {base : Heap} {x : Str} {k : Nat} {ps : List Str} {S : DSpX} (D : DnX P w K mg base T x k ps S) : Dn P w K mg base T x k ps (fun as Q => S as Q fun _ => False) := by
  obtain ⟨⟨fd, G, hb⟩, h1, h2⟩ := D
  refine ⟨⟨fd, ⟨fun as Q h => G.len as Q _ h, fun A outer s H args us vs Q hr hA e0 bt rv ⟨F, as, P, a1, a2, a3⟩ => ?_⟩, hb⟩, h1, h2⟩
  refine codeAny_mono (G.go A outer s H args us vs Q (fun _ _ _ => False) hr hA e0 bt rv ⟨F, as, P, _, a1, a2, a3, fun _ _ _ z _ _ => z⟩) fun r s' h => ?_
  match r, h with
  | .error e, h =>
    obtain ⟨_, _, _, _, _, _, _, _, _, _, _, _, z⟩ := h
    exact z.elim
  | .ok (.ret u), h => exact h
  | .ok .next, h => exact h
  | .ok .brk, h => exact h
  | .ok .cont, h => exact h
theorem DnX.imp {P : Program} {w : World} {K : PySem.W.Frag} {mg : Str → Option Value} {base : Heap} {x : Str} {k : Nat} {ps : List Str} {S S' : DSpX} (D : DnX P w K mg base T x k ps S) (h : ∀ as Q E, S' as Q E → S as Q E) : DnX P w K mg base T x k ps S' := by
  obtain ⟨⟨fd, G, hb⟩, h1, h2⟩ := D
  exact ⟨⟨fd, ⟨fun as Q E q => G.len as Q E (h _ _ _ q), fun as Q E q => G.nc as Q E (h _ _ _ q), fun A outer s H args us vs Q E hr hA e0 bt rv ⟨F, as, P, Ec, a1, a2, a3⟩ => G.go A outer s H args us vs Q E hr hA e0 bt rv ⟨F, as, P, Ec, a1, h _ _ _ a2, a3⟩⟩, hb⟩, h1, h2⟩
section
variable {X : Cx} {a : Expr} {wa : DE} {p q2 pos : Pos} {es : List Expr} {ds : List Str}
end
end DL

namespace DL
variable {T : List (PySem.Addr × PySem.Str)} {Z : Zx T}
open PySem PySem.Spec PyProof.Rows L2
open Evl (Ex)
section
variable {K : PySem.W.Frag} {g : Gx Z} {F : Hp} {env : List SD} {σ : L2.St} {H : Hp}
/-- no name's cell is at D -/
def NoNm (env : List SD) (σ : L2.St) (D : Addr) : Prop := ∀ (j : Nat) (p : Bool) (ys : List PyData), env[j]? = some (.cel p ys) → σ[j]? ≠ some (some (.ref D))
end
abbrev KB := List (Key × V)
def KeysAre (kvs : KB) (ks : List Int) : Prop := kvs.map (·.1) = ks.map Sum.inl ∧ ks.Nodup
def intQ (d : PyData) (P : Prop) : Prop := match d with
  | .int _ => P
  | _ => False
def dsetN {I : Type} (f : I → PyData → (I → PyData → Prop) → (I → Prop) → Prop) (i : I) : List PyData → List PyData → (List PyData → Prop) → Prop
  | [], acc, K => sortSetQ (.list acc) K
  | d :: r, acc, K => f i d (fun i' k => i' = i ∧ intQ k (acc.length ≤ 1000 ∧ dsetN f i r (acc ++ [k]) K)) fun i' => i' = i ∧ dsetN f i r acc K
/-- sealed: the items aren't walked by the kernel -/
inductive dsetQ {I : Type} (f : I → PyData → (I → PyData → Prop) → (I → Prop) → Prop) (i : I) (items acc : List PyData) (K : List PyData → Prop) : Prop
  | mk : dsetN f i items acc K → dsetQ f i items acc K
theorem dsetQ.out {I : Type} {f : I → PyData → (I → PyData → Prop) → (I → Prop) → Prop} {i : I} {items acc : List PyData} {K : List PyData → Prop} (h : dsetQ f i items acc K) : dsetN f i items acc K := by
  cases h with
  | mk h => exact h
section
variable {X : Cx} {tg iter test key a b : Expr} {wa wb wk : DE} {wi : DI} {wt : DT} {D r : Str}
/-- what stands of the dict in the course of the walk -/
structure Dst (K : PySem.W.Frag) (g : Gx Z) (F : Hp) (env : List SD) (σ : L2.St) (H : Hp) (iD : Nat) (A : Addr) (acc : List PyData) (kvs : KB) : Prop where
  ok : Ok K g F env σ H
  slot : σ[iD]? = some (some (.ref A))
  hF : F A = none
  hH : H A = some (.dK kvs)
  keys : ∃ (ks ns : List Int), KeysAre kvs ks ∧ acc = ns.map PyData.int ∧ (∀ m, m ∈ ks ↔ m ∈ ns) ∧ ks.length ≤ ns.length
  nw : NoNm env σ A
end
end DL

namespace DL
variable {T : List (PySem.Addr × PySem.Str)} {Z : Zx T}
open PySem PySem.Spec PyProof.Rows L2
open Evl (Ex)
section
variable {X : Cx}
end
def idxQ (ds : List PyData) (y : PyData) (P : PyData → Prop) : Prop := (SeqAt.shaped (.list ds) = true ∧ SeqAt.shaped y = true) ∧ match ds.findIdx? fun z => eqD z y with
  | some j => P (.int (j : Nat))
  | none => False
abbrev dMl (f : List PyData → PyData → (PyData → Prop) → Prop) (wa wb : DE) (env : List SD) (P : PyData → List SD → Prop) : Prop := wa env fun x env1 => lstQ x fun ds => wb env1 fun y env2 => f ds y fun z => P z env2
theorem lstQ_inv {x : PyData} {K : List PyData → Prop} (h : lstQ x K) : ∃ ds, x = .list ds ∧ K ds := by
  unfold lstQ at h
  split at h
  · exact ⟨_, rfl, h⟩
  · exact h.elim
section
variable {X : Cx} {a e : Expr} {wa we : DE} {apos cpos : Pos}
/-- a list's value is a list object -/
theorem isLst {K : PySem.W.Frag} {F H : Hp} {v : V} {ds : List PyData} (fh : Ex F H) (h : DR K F v (.list ds)) : tyV K "list" v H := by
  obtain ⟨a, xs, rfl, h1, _⟩ := h.inv_lst
  exact .inl ⟨rfl, xs, (h1.mono fh).sq⟩
theorem lift_ml {K : PySem.W.Frag} {r : V → List V → Hp → VK → Prop} {f : List PyData → PyData → (PyData → Prop) → Prop}
    (hf : ∀ (g : Gx Z) (F : Hp) (env : List SD) (σ : L2.St) (H : Hp) (ds : List PyData) (y : PyData) (vx vy : V) (P : PyData → Prop) (Q : VK), Ok K g F env σ H → DR K F vx (.list ds) → DR K F vy y → f ds y P → (∀ (z : PyData) (v : V), P z → DR K F v z → Q v H) → r vx [vy] H Q)
    {σ : L2.St} {H : Hp} {Q : VK} (h : liftE K Z (dMl f wa we) σ H Q) : tBM K "list" r (liftE K Z wa) (tCons (liftE K Z we) tNil) σ H Q := by
  obtain ⟨g, F, env, P, k, w, q⟩ := h
  refine ⟨g, F, env, _, k, w, fun x env1 v F1 H1 p e1 k1 r1 => ?_⟩
  obtain ⟨ds, rfl, p⟩ := lstQ_inv p
  refine ⟨isLst k1.fh r1, g, F1, env1, _, k1, p, fun y env2 v2 F2 H2 p2 e2 k2 r2 => ?_⟩
  exact hf g F2 env2 σ H2 ds y v v2 _ _ k2 (r1.mono e2) r2 p2 fun z u p3 r3 => q z env2 u F2 H2 p3 (e1.trans e2) k2 r3
theorem dlix (hu : X.A.units + 65 < cLine) (ha : PE X a (liftE X.K Z wa)) (he : PE X e (liftE X.K Z we))
    (h1 : attributeBase a "index" X.env (eval a X.env) = eval a X.env := by rfl)
    (h2 : ((backTo cpos (starEach [e] X.env)).all (!·.1) && (backToKw cpos (keywordEach [] X.env)).all (·.1.isSome) && decide ([e].length + ([] : List Keyword).length + (if ([] : List Keyword).isEmpty then 0 else 1) < 30)) = true := by rfl)
    (h3 : (apos.endLine == cpos.line) = true := by rfl)
    (h4 : starEach [e] X.env = (false, eval e X.env) :: starEach [] X.env := by rfl) (h5 : (backTo cpos (starEach [] X.env)).any (·.1) = false := by rfl) :
    PE X (.Call (.Attribute a "index" apos) [e] [] cpos) (liftE X.K Z (dMl idxQ wa we)) :=
  PE.of (pe_bm PySem.F.plainAttrs_list PySem.F.slot_list_index PySem.F.type_list_index (mt_indexD hu) ha (pa_cons he pa_nil h4) h1 h2 h3 h4 h5) fun σ H Q h => lift_ml (fun g F env σ H ds y vx vy P Q k rx ry f q => by
    obtain ⟨⟨s1, s2⟩, f⟩ := f
    obtain ⟨b, xs, rfl, _, _⟩ := rx.inv_lst
    split at f
    · rename_i j ej
      obtain ⟨hj, h2, h3⟩ := List.findIdx?_eq_some_iff_getElem.mp ej
      refine ⟨b, vy, y, ds, j, ds[j], rfl, rfl, DR.dp (drH k rx) (dict_of_shaped s1), DR.dp (drH k ry) (dict_of_shaped s2), s1, s2, List.getElem?_eq_getElem hj, by rw [← eqD_eq]; exact h2, fun m z' hm hz => ?_, q _ _ f (.int _)⟩
      obtain ⟨hm2, rfl⟩ := List.getElem?_eq_some_iff.mp hz
      rw [← eqD_eq]
      simpa using h3 m hm
    · exact f.elim) h
end
def strsD : List PyData → Option (List Str)
  | [] => some []
  | .str i :: r => (strsD r).map (i :: ·)
  | _ :: _ => none
theorem strs_rel {K : PySem.W.Frag} {F : Hp} : ∀ {ds : List PyData} {vs : List V} {ns : List Str}, DRs K F vs ds → strsD ds = some ns → vs = ns.map V.str
  | [], _, _, h, e => by cases h; cases e; rfl
  | .str i :: r, _, ns, h, e => by
    cases h with
    | cons a b =>
      cases q : strsD r with
      | none => simp [strsD, q] at e
      | some ms =>
        simp only [strsD, q, Option.map_some, Option.some.injEq] at e
        subst e
        cases a.inv_str
        rw [strs_rel b q]
        rfl
  | .none :: _, _, _, _, e => by simp [strsD] at e
  | .bool _ :: _, _, _, _, e => by simp [strsD] at e
  | .int _ :: _, _, _, _, e => by simp [strsD] at e
  | .list _ :: _, _, _, _, e => by simp [strsD] at e
  | .tuple _ :: _, _, _, _, e => by simp [strsD] at e
  | .dict _ :: _, _, _, _, e => by simp [strsD] at e
def joinOk (a : Str) (ys : List Str) : Prop := (ys.map (·.length)).sum + ys.length * a.length ≤ 16777216
def joinQ (a : Str) (ys : Option (List Str)) (P : PyData → Prop) : Prop := match ys with
  | some ys => joinOk a ys ∧ P (.str (Txt.join a ys))
  | none => False
def nJoin (a : Str) (y : PyData) (P : PyData → Prop) : Prop := match y with
  | .list ds => joinQ a (strsD ds) P
  | .tuple ds => joinQ a (strsD ds) P
  | _ => False
abbrev dJoin (a : Str) (we : DE) (env : List SD) (P : PyData → List SD → Prop) : Prop := we env fun y env1 => nJoin a y fun z => P z env1
section
variable {X : Cx} {e : Expr} {we : DE} {apos pos p0 : Pos} {j0 : Nat}
theorem djoin {a : Str} (he : PE X e (liftE X.K Z we)) (hs : starEach [e] X.env = [(false, eval e X.env)] := by rfl)
    (hbase : attributeBase (.Constant (.str a) j0 p0) "join" X.env (eval (.Constant (.str a) j0 p0) X.env) = eval (.Constant (.str a) j0 p0) X.env := by rfl) (hline : (apos.endLine == pos.line) = true := by rfl) :
    PE X (.Call (.Attribute (.Constant (.str a) j0 p0) "join" apos) [e] [] pos) (liftE X.K Z (dJoin a we)) :=
  PE.of (pe_join (ds (Z := Z)) he hs hbase hline) fun σ H Q ⟨g, F, env, P, k, w, q⟩ => by
    refine ⟨g, F, env, fun d env' => d = .str a ∧ dJoin a we env' P, k, ⟨rfl, w⟩, fun d env1 v F1 H1 ⟨ed, w⟩ e1 k1 r1 => ?_⟩
    subst ed
    cases r1.inv_str
    refine ⟨⟨a, rfl⟩, g, F1, env1, _, k1, w, fun y env2 v2 F2 H2 p2 e2 k2 r2 => ?_⟩
    unfold nJoin at p2
    split at p2
    · obtain ⟨b, xs, rfl, h1, h2⟩ := r2.inv_lst
      unfold joinQ at p2
      split at p2
      · rename_i ys ey
        cases strs_rel h2 ey
        exact ⟨a, b, ys, rfl, rfl, .inl (h1.mono k2.fh).sq, p2.1, q _ env2 _ F2 H2 p2.2 (e1.trans e2) k2 (.str _)⟩
      · exact p2.elim
    · obtain ⟨b, xs, rfl, h1, h2⟩ := r2.inv_tup
      unfold joinQ at p2
      split at p2
      · rename_i ys ey
        cases strs_rel h2 ey
        exact ⟨a, b, ys, rfl, rfl, .inr (Evl.ex_t k2.fh h1), p2.1, q _ env2 _ F2 H2 p2.2 (e1.trans e2) k2 (.str _)⟩
      · exact p2.elim
    · exact p2.elim
end
end DL

namespace DL
variable {T : List (PySem.Addr × PySem.Str)} {Z : Zx T}
open PySem PySem.Spec PyProof.Rows L2
open Evl (Ex)
theorem _root_.L2H.RoomH.units {k : Nat} {A : Around} (r : L2H.RoomH k A) : A.units + 64 < cLine := by have := r.un; omega
theorem _root_.L2H.RoomH.u65 {k : Nat} {A : Around} (r : L2H.RoomH k A) : A.units + 65 < cLine := by have := r.un; omega
/-- as FnG, whatever is handled -/
structure FnB (P : Program) (w : World) (K : PySem.W.Frag) (mg : Str → Option Value) (base : Heap) (T : List (Addr × Str)) (k : Nat) (f : Addr) (fd : FuncData) (ps : List Str) (S : DSp) : Prop where
  len : ∀ as Q, S as Q → as.length = ps.length
  go : ∀ (A : Around) (outer : List Env) (s : Shared) (H : Hp) (args : Args) (us : List Value) (vs : List V) (Q : VK), L2H.RoomH k A → A.guards = some [] → Env0 P w K mg base A outer s H →
    BindsTo s fd args (ps.zip us) → Vals vs us → spD T K S vs H Q → codeAny (model P w) A (.call (.ref f) args) (CR CX0 outer P w H s Q E0) s
structure DnB (P : Program) (w : World) (K : PySem.W.Frag) (mg : Str → Option Value) (base : Heap) (T : List (Addr × Str)) (x : Str) (k : Nat) (ps : List Str) (S : DSp) : Prop where
  ex : ∃ fd, FnB P w K mg base T k (He.ga K x) fd ps S ∧ Binds K fd ps []
  glo : mg x = some (.ref (He.ga K x))
  kp : PySem.W.keepIn K (.ref (He.ga K x)) = true
section
variable {P : Program} {w : World} {K : PySem.W.Frag} {mg : Str → Option Value} {base : Heap}
end
section
variable {X : Cx} {k : Nat} {f : Addr} {fd : FuncData} {ps : List Str} {S : DSp} {x : Str} {p pos : Pos} {e : Expr} {es : List Expr} {was : DA}
end
end DL

namespace DL
variable {T : List (PySem.Addr × PySem.Str)} {Z : Zx T}
open PySem PySem.Spec PyProof.Rows L2
open Evl (Ex)
def keyS (e : Int × Value) : Str := match e.2 with | .str k _ => k | _ => Str.empty
def GoodS (w : World) (e : Int × Value) : Prop := ∃ k t, e.2 = Value.str k t ∧ e.1 = hashStr w k
/-- a set of the texts ys, each once -/
def SetS (w : World) (h : Heap) (a : Addr) (ys : List Str) : Prop :=
  ∃ ob es ep tb, h.get? a = some ob ∧ ob.ExactSet ∧ ob.data = .set es ep tb ∧ (∀ e ∈ es.toList, GoodS w e) ∧ (es.toList.map keyS).Perm ys ∧ ys.Nodup ∧
    es.size < scanBound ∧ tb.fits es.size = true ∧ Ris tb.place.toList ∧ (w.params.followText "set-order" = true ∨ tb.led = true)
section
variable {P : Program} {w : World} {h h' : Heap} {a : Addr} {ys : List Str}
theorem SetS.at (R : SetS w h a ys) (k : ∀ o, h.get? a = some o → h'.get? a = some o) : SetS w h' a ys := by
  obtain ⟨ob, es, ep, tb, ho, r⟩ := R
  exact ⟨ob, es, ep, tb, k ob ho, r⟩
theorem SetS.size (R : SetS w h a ys) : ys.length < scanBound := by
  obtain ⟨ob, es, ep, tb, _, _, _, _, pm, _, hb, _⟩ := R
  rw [← pm.length_eq, List.length_map, Array.length_toList]
  exact hb
theorem goodS_is {e : Int × Value} (g : GoodS w e) (k : Str) : (strKind P w).is k e.2 = true ↔ keyS e = k := by
  obtain ⟨j, t, h1, _⟩ := g
  unfold keyS
  rw [h1]
  constructor
  · intro z
    obtain ⟨u, hu⟩ := Value.isStrOf_shape (show Value.isStrOf k (.str j t) = true from z)
    injection hu with hx
  · intro z
    have z : j = k := z
    subst z
    show Value.isStrOf j (.str j t) = true
    unfold Value.isStrOf
    simp
theorem goodS_elems {l : List (Int × Value)} (g : ∀ e ∈ l, GoodS w e) : ElemsOf (strKind P w) l := fun e he => by
  obtain ⟨k, t, h1, h2⟩ := g e he
  exact ⟨⟨k, (goodS_is (P := P) (g e he) k).mpr (by unfold keyS; rw [h1]), h2⟩, by rw [h1]; rfl⟩
end
section
variable {P : Program} {w : World} {A : Around} {E : Value → Shared → Prop} {s : Shared} {a : Addr} {ys : List Str}
theorem setS_tail {g : Bool → Sem Unit} (hg : ∀ (b : Bool) (s₁ : Shared) (Q' : Unit → Shared → Prop), Q' () s₁ → wpAny (model P w) A (g b) Q' E s₁)
    {ob : Obj} {es : Array (Int × Value)} {ep : Nat} {tb : SetTable} (ho : s.heap.get? a = some ob) (hx : ob.ExactSet) (hd : ob.data = .set es ep tb)
    {fs : Array (Int × Value)} {t2 : SetTable} (g1 : ∀ e ∈ fs.toList, GoodS w e) (pm : (fs.toList.map keyS).Perm ys) (nd : ys.Nodup) (hb : fs.size < scanBound) (hf : t2.fits fs.size = true) (hr : Ris t2.place.toList)
    (hl : w.params.followText "set-order" = true ∨ t2.led = true) {dum : Bool} {R : Option Bool → Shared → Prop} (hR : ∀ h', Heap.SameBut a s.heap h' → SetS w h' a ys → R (some true) { s with heap := h' }) :
    wpAny (model P w) A (do
        storeSet a fs t2
        if (!dum && t2.tooFull) = true then do
            g (relayAll t2 fs (SetTable.grown fs.size)).2.2
            storeSet a (relayAll t2 fs (SetTable.grown fs.size)).1 (relayAll t2 fs (SetTable.grown fs.size)).2.1
            pure (some true)
          else pure (some true)) R E s := by
  refine wpAny_bind (wpAny_storeSet_of ho hd ?_ (fits_of_scanBound hb))
  have o1 := store_at (es' := fs) (t' := t2) ho hd
  have b1 := Heap.SameBut.update s.heap a (Obj.putSet fs t2)
  split
  · have q1 := relayAll_perm t2 fs (SetTable.grown fs.size)
    have q2 := relayAll_fits t2 fs (SetTable.grown fs.size)
    have q3 := relayAll_ris t2 fs (SetTable.grown fs.size)
    have q4 := relayAll_led t2 fs (SetTable.grown fs.size)
    generalize relayAll t2 fs (SetTable.grown fs.size) = W at q1 q2 q3 q4 ⊢
    obtain ⟨gs, t3, gv⟩ := W
    dsimp only at q1 q2 q3 q4 ⊢
    have sz : gs.size = fs.size := by rw [← Array.length_toList, q1.length_eq, Array.length_toList]
    have b2 : gs.size < scanBound := by rw [sz]; exact hb
    refine wpAny_bind (hg _ _ _ ?_)
    refine wpAny_bind (wpAny_storeSet_of o1 rfl ?_ (fits_of_scanBound b2))
    have o2 := store_at (es' := gs) (t' := t3) o1 rfl
    refine wpAny_pure (hR _ (b1.trans (Heap.SameBut.update _ a _)) ⟨_, gs, _, t3, o2, hx, rfl, fun e he => g1 e (q1.mem_iff.mp he), (q1.map keyS).trans pm, nd, b2, q2, q3, hl.imp id fun z => by rw [q4]; exact z⟩)
  · exact wpAny_pure (hR _ b1 ⟨_, fs, _, t2, o1, hx, rfl, g1, pm, nd, hb, hf, hr, hl⟩)
/-- a text goes into the set -/
theorem setS_add {k : Str} {tk : Tok} {Q : Bool → Shared → Prop} (R : SetS w s.heap a ys) (room : ys.length + 1 < scanBound)
    (hQ : ∀ h' b, Heap.SameBut a s.heap h' → SetS w h' a (if k ∈ ys then ys else k :: ys) → Q b { s with heap := h' }) :
    wpAny (model P w) A (setAddHashed a (.str k tk) ((strKind P w).hash k)) Q E s := by
  obtain ⟨ob, es, ep, tb, ho, hx, hd, g, pm, nd, hb, hf, hr, hl⟩ := R
  have hkey : (strKind P w).is k (.str k tk) = true := (goodS_is (P := P) (e := (hashStr w k, .str k tk)) ⟨k, tk, rfl, rfl⟩ k).mpr rfl
  have hsc : (Value.str k tk).scannable = true := rfl
  have hel : ElemsOf (strKind P w) es.toList := goodS_elems g
  (unfold setAddHashed; unfold setAddHashedIn)
  refine wpAny_holding (wpAny_bind (wpAny_setState_of ho hd hf ?_))
  dsimp only
  rw [byScan_of hsc hb hel]
  simp only [↓reduceIte]
  (unfold setAddByScan; refine wpAny_bind ?_)
  refine wpAny_bind (wpAny_rule ?_)
  refine wpAny_bind (wpAny_setScan_of hkey ho hd hf hel ?_)
  cases hfi : List.findIdx? (fun e => (strKind P w).is k e.2) es.toList with
  | some j =>
    dsimp only
    obtain ⟨hj, pj, _⟩ := List.findIdx?_eq_some_iff_getElem.mp hfi
    have hk : k ∈ ys := by
      rw [← pm.mem_iff, List.mem_map]
      exact ⟨es.toList[j], List.getElem_mem hj, (goodS_is (P := P) (g _ (List.getElem_mem hj)) k).mp pj⟩
    refine wpAny_pure (wpAny_pure (hQ s.heap _ (Heap.SameBut.refl a s.heap) ?_))
    rw [if_pos hk]
    exact ⟨ob, es, ep, tb, ho, hx, hd, g, pm, nd, hb, hf, hr, hl⟩
  | none =>
    dsimp only
    have hk : k ∉ ys := fun z => by
      rw [← pm.mem_iff, List.mem_map] at z
      obtain ⟨e, he, q⟩ := z
      have c := List.findIdx?_eq_none_iff.mp hfi e he
      rw [(goodS_is (P := P) (g e he) k).mpr q] at c
      cases c
    have hgw : ∀ (b : Bool) {s₁ : Shared} {Q' : Unit → Shared → Prop}, Q' () s₁ → wpAny (model P w) A (match b with | true => rule "set.scan.the-table-gave-way" | false => pure ()) Q' E s₁ := fun b s₁ Q' q => by
      cases b
      · exact wpAny_pure q
      · exact wpAny_rule q
    have p1 := layNew_perm tb es ((strKind P w).hash k) (.str k tk)
    have f1 := layNew_fits tb es ((strKind P w).hash k) (.str k tk)
    have r1 := layNew_ris tb es ((strKind P w).hash k) (.str k tk) hr
    have l1 := layNew_led tb es ((strKind P w).hash k) (.str k tk)
    generalize layNew tb es ((strKind P w).hash k) (.str k tk) = W at p1 f1 r1 l1 ⊢
    obtain ⟨fs, t1, dum, gv⟩ := W
    dsimp only at p1 f1 r1 l1 ⊢
    rw [Array.toList_push] at p1
    have pc : fs.toList.Perm (((strKind P w).hash k, Value.str k tk) :: es.toList) := p1.trans (List.perm_append_singleton _ _)
    have pk : (fs.toList.map keyS).Perm (k :: ys) := (pc.map keyS).trans (pm.cons k)
    have g1 : ∀ e ∈ fs.toList, GoodS w e := fun e he => by
      rcases List.mem_cons.mp (pc.mem_iff.mp he) with z | z
      · rw [z]; exact ⟨k, tk, rfl, rfl⟩
      · exact g e z
    have nd1 : (k :: ys).Nodup := List.nodup_cons.mpr ⟨hk, nd⟩
    have sz : fs.size = ys.length + 1 := by rw [← Array.length_toList, ← List.length_map (f := keyS), pk.length_eq, List.length_cons]
    have hb1 : fs.size < scanBound := by rw [sz]; exact room
    have hled : w.params.followText "set-order" = true ∨ t1.led = true := hl.imp id fun z => by rw [l1]; exact z
    have fin : ∀ b h', Heap.SameBut a s.heap h' → SetS w h' a (k :: ys) → Q b { s with heap := h' } := fun b h' sb r => hQ h' b sb (by rw [if_neg hk]; exact r)
    refine wpAny_bind (hgw _ ?_)
    split
    · refine wpAny_bind ?_
      rw [hashByValue_scannable 8 hsc]
      refine wpAny_pure ?_
      refine setS_tail ?_ ho hx hd g1 pk nd1 hb1 ?_ ?_ ?_ ?_
      · intro b s₁ Q' q
        cases b
        · exact wpAny_pure q
        · exact wpAny_rule q
      · first | (split <;> first | exact f1 | exact SetTable.fits_plain_off f1) | exact f1
      · first | (split <;> exact r1) | exact r1
      · first | (split <;> exact hled) | exact hled
      · intro h' sb r
        dsimp only
        exact wpAny_pure (fin _ h' sb r)
    · refine wpAny_bind (wpAny_pure ?_)
      simp only [↓reduceIte]
      refine setS_tail ?_ ho hx hd g1 pk nd1 hb1 f1 r1 hled ?_
      · intro b s₁ Q' q
        cases b
        · exact wpAny_pure q
        · exact wpAny_rule q
      · intro h' sb r
        dsimp only
        exact wpAny_pure (fin _ h' sb r)
end
end DL

namespace DL
variable {T : List (PySem.Addr × PySem.Str)} {Z : Zx T}
open PySem PySem.Spec PyProof.Rows L2
open Evl (Ex)
/-- each once -/
def dd : List Str → List Str → List Str
  | acc, [] => acc
  | acc, k :: r => dd (if k ∈ acc then acc else k :: acc) r
theorem dd_mem : ∀ (r acc : List Str) (k : Str), k ∈ dd acc r ↔ k ∈ acc ∨ k ∈ r
  | [], acc, k => by simp [dd]
  | x :: r, acc, k => by
    rw [dd, dd_mem r]
    by_cases h : x ∈ acc
    · rw [if_pos h, List.mem_cons]
      refine ⟨fun z => z.elim .inl fun z => .inr (.inr z), fun z => z.elim .inl fun z => z.elim (fun e => .inl (e ▸ h)) .inr⟩
    · rw [if_neg h, List.mem_cons, List.mem_cons]
      refine ⟨fun z => z.elim (fun z => z.elim (fun e => .inr (.inl e)) .inl) fun z => .inr (.inr z), fun z => z.elim (fun z => .inl (.inr z)) fun z => z.elim (fun e => .inl (.inl e)) .inr⟩
theorem dd_nodup : ∀ (r acc : List Str), acc.Nodup → (dd acc r).Nodup
  | [], acc, h => h
  | x :: r, acc, h => by
    rw [dd]
    refine dd_nodup r _ ?_
    by_cases c : x ∈ acc
    · rw [if_pos c]; exact h
    · rw [if_neg c]; exact List.nodup_cons.mpr ⟨c, h⟩
theorem dd_len : ∀ (r acc : List Str), (dd acc r).length ≤ acc.length + r.length
  | [], acc => by simp [dd]
  | x :: r, acc => by
    rw [dd]
    have := dd_len r (if x ∈ acc then acc else x :: acc)
    have : (if x ∈ acc then acc else x :: acc).length ≤ acc.length + 1 := by split <;> simp
    simp only [List.length_cons]
    omega
section
variable {P : Program} {w : World} {A : Around} {E : Value → Shared → Prop} {s : Shared}
theorem set_texts {I : Addr} {fp wr : List Addr} {G : Array GenState → Array GenState → Prop} {n : Nat} {Pv : Nat → Value → Prop} {St : Nat → Shared → Prop} {R : Result → Shared → Prop}
    (W : WalksS P w A.in1 I fp wr G n Pv St) (D : Addr) (hD : D ∉ fp) (xs : List Str) (hn : n = xs.length) (hb : xs.length + 1 < scanBound) (hv : ∀ i v, Pv i v → ∃ k t, xs[i]? = some k ∧ v = .str k t) :
    ∀ (m i : Nat) (acc : List Str) (s : Shared), n - i = m → i ≤ n → acc.length ≤ i → St i s → SetS w s.heap D acc →
      (∀ s', Moved (D :: wr) G s s' → SetS w s'.heap D (dd acc (xs.drop i)) → R (.ok (.ret .none)) s') →
      codeAny (model P w) A (.builtin "set.update.loop" ⟨[.ref D, .ref I], []⟩) R s := by
  have hw : D ∉ wr := fun z => hD (W.sub _ z)
  have sub : ∀ b ∈ wr, b ∈ D :: wr := fun b hb => List.mem_cons_of_mem _ hb
  intro m
  induction m with
  | zero =>
    intro i acc s hm hi _ hst hS hR
    obtain rfl : i = n := by omega
    refine codeAny_builtin F.entry_set_update_loop ?_
    rw [(Around.under_plainId F.plain_set_update_loop _)]
    show wpAny _ A.in1 ((pyNext (.ref I)) >>= _) _ _ s
    refine wpAny_bind (W.done s _ _ hst fun s' mv => ?_)
    show wpAny _ A.in1 (ret .none) _ _ s'
    rw [hn, List.drop_length] at hR
    exact wpAny_pure (hR s' (mv.mono sub) (hS.at fun o e => mv.heap D o hw e))
  | succ m ih =>
    intro i acc s hm hi ha hst hS hR
    have lt : i < n := by omega
    refine codeAny_builtin F.entry_set_update_loop ?_
    rw [(Around.under_plainId F.plain_set_update_loop _)]
    show wpAny _ A.in1 ((pyNext (.ref I)) >>= _) _ _ s
    refine wpAny_bind (W.item i s _ _ lt hst fun v s' hP st2 mv => ?_)
    obtain ⟨z, t, hz, rfl⟩ := hv i v hP
    have hS' : SetS w s'.heap D acc := hS.at fun o e => mv.heap D o hw e
    show wpAny _ A.in1 (holding [Value.str z t] (setAdd D (.str z t)) >>= _) _ _ s'
    refine wpAny_bind (wpAny_holding ?_)
    (unfold setAdd; refine wpAny_holding ?_)
    have hkey : (strKind P w).is z (.str z t) = true := (goodS_is (P := P) (w := w) (e := (hashStr w z, .str z t)) ⟨z, t, rfl, rfl⟩ z).mpr rfl
    refine wpAny_bind ((strKind P w).pyHash (k := z) hkey ?_)
    refine setS_add (s := { s' with toks := s'.toks + 1 }) hS' (by omega) fun h' b sb hS2 => ?_
    have hdr : xs.drop i = z :: xs.drop (i + 1) := by
      obtain ⟨q1, q2⟩ := List.getElem?_eq_some_iff.mp hz
      rw [List.drop_eq_getElem_cons q1, q2]
    rw [hdr, dd] at hR
    have ha2 : (if z ∈ acc then acc else z :: acc).length ≤ i + 1 := by
      split
      · omega
      · rw [List.length_cons]; omega
    refine wpAny_pure ⟨plainId_quiet F.plain_set_update_loop _, ih (i + 1) _ _ (by omega) lt ha2 (W.frame _ s' _ _ st2 (Nat.le_succ _) fun b hb o e => ?_) hS2 fun s'' m2 hS3 => ?_⟩
    · rw [sb.2 b (fun z : b = D => hD (by rw [← z]; exact hb))]; exact e
    · refine hR s'' (Moved.trans W.gtrans ((mv.mono sub).then_heap (Nat.le_succ _) fun b o hb e => ?_) m2) hS3
      rw [sb.2 b (fun z : b = D => hb (by rw [z]; exact List.mem_cons_self))]; exact e
theorem setS_new {h : Heap} {a : Addr} (ho : h.get? a = some (nset w)) : SetS w h a [] :=
  ⟨_, #[], 0, _, ho, ⟨rfl, rfl, rfl⟩, rfl, (fun e he => by simp at he), .nil, List.nodup_nil, (by decide), (by rfl), List.Pairwise.nil, by
    show _ ∨ (!w.params.followText "set-order") = true
    cases w.params.followText "set-order"
    · exact .inr rfl
    · exact .inl rfl⟩
theorem setS_fill {S l : Addr} {its : List Value} {xs : List Str} {R : Value → Shared → Prop} (hh : A.handled = none) (hS : s.heap.get? S = some (nset w)) (hl : s.heap.IsList l its.toArray) (hi : StrsAre its xs) (hb : xs.length + 1 < scanBound) (hne : l ≠ S)
    (h : ∀ (h' : Heap) (tk : Nat), SetS w h' S (dd [] xs) → (∀ b o, b ≠ S → s.heap.get? b = some o → h'.get? b = some o) → R .none { s with heap := h', toks := tk }) :
    codeAny (model P w) A (.call (.builtin "set.__init__") ⟨[.ref S, .ref l], []⟩) (wants R E) s := by
  have ty : s.TypeIs (.ref S) "set" := ⟨_, hS, rfl⟩
  have lenI : its.length = xs.length := hi.length
  have ltS : S < s.heap.objs.size := Heap.lt_size hS
  refine codeAny_call_builtin F.called_set.init.plain F.entry_set_init (check_set_init_1 ty ?_)
  obtain ⟨lo, elo, elc, ln, eld⟩ := id hl
  have ltl : l < s.heap.objs.size := Heap.lt_size elo
  obtain ⟨c0, d0, dt0, sl0⟩ := lo
  dsimp only at elc eld
  subst elc eld
  have n1 := F.sub_list_set
  have n2 := F.sub_list_frozenset
  have n3 : (Value.type "list" == Value.type "dict") = false := by decide
  unfold Builtin.«set.__init__» noKeywords Builtin.Frozenset.updateFrom
  generalize eP : pyIter = PI
  wp_walk
  subst eP
  refine wpAny_pyIter_list hl (wpAny_bind (wpAny_runValue ?_))
  have h3 : A.in1.in1.handled = none := by simp [hh]
  have nI : l ≠ s.heap.objs.size := Nat.ne_of_lt ltl
  have nf : S ∉ [s.heap.objs.size, l] := by
    simp only [List.mem_cons, List.not_mem_nil, or_false, not_or]
    exact ⟨Nat.ne_of_lt ltS, Ne.symm hne⟩
  have vals : ∀ (i : Nat) (v : Value), its.toArray[i]? = some v → ∃ k t, xs[i]? = some k ∧ v = .str k t := fun i v hv => by
    have hv2 : its[i]? = some v := by simpa using hv
    obtain ⟨t, e⟩ := SS.strs_at hi i v hv2
    have hil : i < xs.length := by rw [← lenI]; exact (List.getElem?_eq_some_iff.mp hv2).1
    exact ⟨xs[i], t, List.getElem?_eq_getElem hil, by rw [e, List.getD_eq_getElem?_getD, List.getElem?_eq_getElem hil] <;> rfl⟩
  refine set_texts ((Walks.list h3 _ l nI its.toArray).toS) S nf xs (by simpa using lenI) hb vals (its.toArray.size - 0) 0 [] _ (by omega) (Nat.zero_le _) (by simp) ⟨⟨_, Heap.get?_push_size _ rfl, rfl, rfl⟩, (hl.push _)⟩ (setS_new (Heap.get?_push_of_some _ hS)) ?_
  intro s' hm hR
  obtain ⟨h', g2, d', tk', os'⟩ := s'
  have e1 : g2 = s.gens := hm.gens
  have e2 : d' = s.drawn := hm.drawn
  have e3 : os' = s.os := hm.os
  subst e1 e2 e3
  refine wpAny_pure (wpAny_pure ?_)
  refine h h' tk' hR fun b o nb e => ?_
  exact hm.heap b o (by simp only [List.mem_cons, List.not_mem_nil, or_false, not_or]; exact ⟨nb, Nat.ne_of_lt (Heap.lt_size e)⟩) (Heap.get?_push_of_some _ e)
/-- set(xs) -/
theorem call_set_texts {l : Addr} {its : List Value} {xs : List Str} {Q : Value → Shared → Prop} (hh : A.handled = none) (hl : s.heap.IsList l its.toArray) (hi : StrsAre its xs) (hb : xs.length + 1 < scanBound)
    (h : ∀ (h' : Heap) (tk : Nat), SetS w h' s.heap.objs.size (dd [] xs) → (∀ b o, s.heap.get? b = some o → h'.get? b = some o) → Q (.ref s.heap.objs.size) { s with heap := h', toks := tk }) :
    wpAny (model P w) A (call (.type "set") [.ref l]) Q E s := by
  have ll : l < s.heap.objs.size := by obtain ⟨_, e, _⟩ := id hl; exact Heap.lt_size e
  obtain ⟨mc, mt, q1⟩ := F.called_set.mro
  have q2 := F.called_set.made
  have q3 := F.called_set.sub
  have q4 := F.called_set.notType
  have q5 := F.called_set.canCreate
  have q6 := F.typeCall_set_1 (.ref l)
  apply wpAny_call
  apply codeAny_of_tree
  show wpAny _ _ (callAny (.type "set") _) _ _ _
  apply wpAny_pure
  refine ⟨Code.quiet_builtin _ (by decide +kernel), codeAny_builtin F.entry_type_call ?_⟩
  rw [show A.under _ = _ from Around.under_plain (weight_type_call_type "set" [.ref l] []) rfl]
  repeat any_goals first | assumption | wp_step
  refine codeAny_mono (code_set_led1 (.ref l) (E := E) (Q₁ := fun o z => o = .ref s.heap.objs.size ∧ z = { s with heap := s.heap.push (nset w) }) ⟨rfl, rfl⟩) fun r z hr => ?_
  match r, hr with
  | .error e, hr => exact hr
  | .ok (.ret o), hr =>
    obtain ⟨rfl, rfl⟩ := hr
    have w1 := F.called_set.init.lookup
    have w2 := F.called_set.init.bind (.ref s.heap.objs.size)
    have w3 : Shared.TypeIs { s with heap := s.heap.push (nset w) } (.ref s.heap.objs.size) "set" := ⟨_, Heap.get?_push_size _ rfl, rfl⟩
    repeat any_goals first | assumption | wp_step
    refine codeAny_mono (setS_fill (E := E) (R := fun r z => r = .none ∧ ∃ h' tk, z = { s with heap := h', toks := tk } ∧ SetS w h' s.heap.objs.size (dd [] xs) ∧ ∀ b o, s.heap.get? b = some o → h'.get? b = some o) (by simp [hh]) (Heap.get?_push_size _ rfl) (hl.push _) hi hb (Nat.ne_of_lt ll) fun h' tk a1 a3 => ⟨rfl, h', tk, rfl, a1, fun b o e => a3 b o (Nat.ne_of_lt (Heap.lt_size e)) (Heap.get?_push_of_some _ e)⟩) fun r2 z2 hz => ?_
    match r2, hz with
    | .error e, hz => exact hz
    | .ok (.ret u), hz =>
      obtain ⟨rfl, h', tk, rfl, a1, a3⟩ := hz
      repeat any_goals first | assumption | wp_step
      exact h _ _ a1 a3
    | .ok .next, hz => exact hz.elim
    | .ok .brk, hz => exact hz.elim
    | .ok .cont, hz => exact hz.elim
  | .ok .next, hr => exact hr.elim
  | .ok .brk, hr => exact hr.elim
  | .ok .cont, hr => exact hr.elim
/-- sorted(a set of texts) -/
theorem sorted_setS {a : Addr} {ys : List Str} {Q : Value → Shared → Prop} (R : SetS w s.heap a ys) (hh : A.handled = none) (h64 : ys.length < 64)
    (hQ : ∀ s' p (out : Array Value) (c : Nat) (zs : List Str), (∀ b o, s.heap.get? b = some o → s'.heap.get? b = some o) → s'.gens = s.gens → s'.os = s.os → s.heap.objs.size ≤ p →
      s'.heap.get? p = some (seqObj "list" out c) → StrsAre out.toList zs → zs.Perm ys → sortedS zs = true → Q (.ref p) s') :
    wpAny (model P w) A (call (.builtin "sorted") [.ref a]) Q E s := by
  obtain ⟨ob, es, ep, tb, ho, hx, hd, g, pm, nd, hb, hf, hr, hl⟩ := R
  refine Calls.call_function_entry kind_sorted plain_sorted entry_sorted (args_sorted1 _) ?_
  (unfold Builtin.«sorted»; refine wpAny_bind (m := checkCount "sorted" 1 1 _) (wpAny_pure ?_))
  refine wpAny_bind (collect_set (A := A.in1) hh ⟨ob, ho, hx.1, hd⟩ hf hb hr hl fun s1 vs k1 hz g1 o1 p1 => ?_)
  have vl : vs.length = ys.length := by rw [p1.length_eq, List.length_map, ← pm.length_eq, List.length_map]
  have hI : ∃ us, StrsAre vs us ∧ us.Perm ys := by
    have go : ∀ l : List Value, (∀ v ∈ l, ∃ k t, v = Value.str k t) → ∃ us, StrsAre l us ∧ us = l.map fun v => match v with | .str k _ => k | _ => Str.empty := fun l => by
      induction l with
      | nil => exact fun _ => ⟨[], .nil, rfl⟩
      | cons v l ih =>
        intro hv
        obtain ⟨k, t, rfl⟩ := hv _ List.mem_cons_self
        obtain ⟨us, e1, e2⟩ := ih fun u hu => hv u (List.mem_cons_of_mem _ hu)
        exact ⟨k :: us, .cons k t e1, by rw [List.map_cons, e2]⟩
    obtain ⟨us, e1, e2⟩ := go vs fun v hv => by
      obtain ⟨e, he, q⟩ := List.mem_map.mp (p1.mem_iff.mp hv)
      obtain ⟨k, t, h1, _⟩ := g e he
      exact ⟨k, t, by rw [← q]; exact h1⟩
    refine ⟨us, e1, ?_⟩
    rw [e2]
    refine (p1.map _).trans ?_
    rw [List.map_map]
    exact pm
  obtain ⟨us, hI, hp⟩ := hI
  refine wpAny_bind (wpAny_newList ?_ (by rw [vl, sizeLine_eq]; omega))
  have hoL : (s1.heap.push (seqObj "list" vs.toArray 0)).get? s1.heap.objs.size = some (seqObj "list" vs.toArray 0) := Heap.get?_push_size _ rfl
  refine wpAny_bind (wpAny_holding (wpAny_call_entry slot_list_sort ⟨_, hoL, rfl⟩ entry_list_sort (list_sort_treeK strKind_oneLt hoL hI.keysOf (fun v₁ v₂ rest e => keyKind_strs (by rw [← e]; exact hI)) (by rw [vl]; exact h64) fun st' q1 q2 => ⟨_, rfl, ?_⟩) (args_list_sort _)))
  obtain ⟨zs, r1, r2, r3⟩ := sorted_out_str hI q1 q2
  obtain ⟨c, hc⟩ := sortedHeap_at (vs := vs) (out := (arrOf st').map (·.2)) hoL
  refine wpAny_pure ⟨_, rfl, hQ _ s1.heap.objs.size _ c zs (fun b u e => ?_) g1 o1 hz hc r1 (r2.trans hp) r3⟩
  have q := k1 b u e
  have lt := Heap.lt_size q
  show (sortedHeap (s1.heap.push (seqObj "list" vs.toArray 0)) s1.heap.objs.size vs _).get? b = some u
  rw [sortedHeap_old (Nat.ne_of_lt lt) (by rw [size_push']; exact Nat.lt_succ_of_lt lt)]
  exact Heap.get?_push_of_some _ q
end
end DL

namespace DL
variable {T : List (PySem.Addr × PySem.Str)} {Z : Zx T}
open PySem PySem.Spec PyProof.Rows L2
open Evl (Ex)
theorem strLt_eq {a b : Str} : strLt a b = decide (a.cps.toList < b.cps.toList) := by unfold strLt; rfl
theorem strLt_trans {a b c : Str} (h : strLt a b = true) (h' : strLt b c = true) : strLt a c = true := by
  rw [strLt_eq, decide_eq_true_eq] at h h' ⊢
  exact List.lt_trans h h'
theorem strLt_irr {a : Str} : strLt a a = false := by
  rw [strLt_eq, decide_eq_false_iff_not]
  exact List.lt_irrefl _
theorem str_ext {a b : Str} (h : a.cps.toList = b.cps.toList) : a = b := by
  cases a with
  | mk u =>
    cases b with
    | mk v =>
      congr
      exact Array.toList_inj.mp h
theorem strLt_or {a b : Str} (h : strLt b a = false) (ne : a ≠ b) : strLt a b = true := by
  rw [strLt_eq, decide_eq_false_iff_not] at h
  rw [strLt_eq, decide_eq_true_eq]
  rcases List.le_iff_lt_or_eq.mp (List.not_lt.mp h) with z | z
  · exact z
  · exact absurd (str_ext z) ne
theorem rising_strict : ∀ (l : List Str) (p : Str), risingS p l = true → (p :: l).Nodup → (∀ x ∈ l, strLt p x = true) ∧ l.Pairwise fun a b => strLt a b = true
  | [], _, _, _ => ⟨by simp, List.Pairwise.nil⟩
  | x :: r, p, h, nd => by
    have h : (!ltCps x.cps.toList p.cps.toList && risingS x r) = true := h
    rw [Bool.and_eq_true] at h
    obtain ⟨n1, n2⟩ := List.nodup_cons.mp nd
    obtain ⟨i1, i2⟩ := rising_strict r x h.2 n2
    have hp : strLt p x = true := strLt_or (by
      rw [strLt_eq, ← ltCps_eq]
      simpa using h.1) fun e => n1 (by rw [e]; exact List.mem_cons_self)
    refine ⟨fun y hy => ?_, List.pairwise_cons.mpr ⟨i1, i2⟩⟩
    rcases List.mem_cons.mp hy with rfl | hy
    · exact hp
    · exact strLt_trans hp (i1 y hy)
theorem sorted_strict : ∀ l : List Str, sortedS l = true → l.Nodup → l.Pairwise fun a b => strLt a b = true
  | [], _, _ => List.Pairwise.nil
  | x :: r, h, nd => by
    obtain ⟨h1, h2⟩ := rising_strict r x h nd
    exact List.pairwise_cons.mpr ⟨h1, h2⟩
def SetSO (w : World) (a : Addr) (ys : List Str) : HO := .ext fun h => SetS w h a ys
theorem setSO_new {w : World} {P : Program} {H : Hp} {h : Heap} {a : Addr} {ys : List Str} (R : SetS w h a ys) : ObjOk P w H h a (SetSO w a ys) := by
  obtain ⟨o, es, ep, t, ho, r⟩ := id R
  exact ⟨R, ⟨o, ho⟩, fun _ _ r' k => r'.at k⟩
theorem callR_or {X : Cx} {f : Value} {r r' : List V → Hp → VK → Prop} (h : CallR X f r) (h' : CallR X f r') : CallR X f (fun xs H Q => r xs H Q ∨ r' xs H Q) := by
  intro pins s σ H xs us Q I rv z
  rcases z with z | z
  · exact h pins s σ H xs us Q I rv z
  · exact h' pins s σ H xs us Q I rv z
section
variable {X : Cx}
def rSetS (w : World) (K : PySem.W.Frag) : List V → Hp → VK → Prop := fun xs H Q => ∃ (l : Addr) (ns : List Str), xs = [V.ref l] ∧ SqL K H l (ns.map V.str) ∧ ns.length + 1 < scanBound ∧ ∀ p, H p = none → Q (.ref p) (upd H p (SetSO w p (dd [] ns)))
theorem call_setS (hc : X.calm = true) : CallR X (.type "set") (rSetS X.w X.K) := by
  intro pins s σ H xs us Q I r h
  obtain ⟨l, ns, rfl, hl, hb, q⟩ := h
  rw [Vals.ref1 r]
  obtain ⟨its, rv, pl, hz⟩ := I.list hl
  refine call_set_texts (I.ok.hd hc) pl.isList rv.strs hb fun h' tk R k => ?_
  exact ⟨.ref s.heap.objs.size, upd H s.heap.objs.size (SetSO X.w s.heap.objs.size (dd [] ns)), I.laid (t' := tk) k (Nat.le_refl _) (setSO_new R), rfl, q _ (I.hok.fresh (Nat.le_refl _))⟩
def rSortedSS (w : World) : List V → Hp → VK → Prop := fun vs H Q => ∃ (a : Addr) (ys : List Str), vs = [V.ref a] ∧ H a = some (SetSO w a ys) ∧ ys.length < 64 ∧
  ∀ (zs : List Str) (p : Addr), zs.Perm ys → sortedS zs = true → H p = none → Q (.ref p) (upd H p (.lst (zs.map V.str)))
theorem cr_sortedSS (hc : X.calm = true) : CallR X (.builtin "sorted") (rSortedSS X.w) := by
  intro pins s σ H vs us Q I r h
  obtain ⟨a, ys, rfl, ha, h64, q⟩ := h
  rw [Vals.ref1 r]
  have R : SetS X.w s.heap a ys := (I.hok a _ ha).1
  refine sorted_setS R (I.ok.hd hc) h64 fun s' p out c zs k g o hp hpo hi pm so => ?_
  have hlen : (zs.map V.str).length ≤ sizeLine := by rw [List.length_map, pm.length_eq]; exact small64 h64
  have hn := I.hok.fresh hp
  refine ⟨.ref p, upd H p (.lst (zs.map V.str)), I.call' (ch := []) o (Un.laid k hp hn) ?_ ?_ ?_, rfl, q zs p pm so hn⟩
  · exact I.hok.laid k hp ⟨hlen, out.toList, c, vals_of_strs hi, hpo⟩
  · rw [g]; exact I.bare
  · intro _ z; exact nomatch z
end
/-- the members once each, rising: of whole numbers, or of texts -/
def sortSetT (d : PyData) (K : List PyData → Prop) : Prop := match d with
  | .list ds => match intsD ds with
    | some ns => ns.length < 63 ∧ ∀ ms : List Int, ms.Pairwise (· < ·) → (∀ k, k ∈ ms ↔ k ∈ ns) → K (ms.map .int)
    | none => match strsD ds with
      | some ts => ts.length < 63 ∧ ∀ ms : List Str, ms.Pairwise (fun a b => strLt a b = true) → (∀ k, k ∈ ms ↔ k ∈ ts) → K (ms.map .str)
      | none => False
  | _ => False
theorem drs_strs {K : PySem.W.Frag} {F : Hp} : ∀ ns : List Str, DRs K F (ns.map V.str) (ns.map PyData.str)
  | [] => .nil
  | n :: ns => .cons (.str n) (drs_strs ns)
theorem strs_map : ∀ ns : List Str, strsD (ns.map .str) = some ns
  | [] => rfl
  | n :: ns => by simp [strsD, strs_map ns]
abbrev dSortSetT (wa : DE) (env : List SD) (P : SD → List SD → Prop) : Prop := wa env fun d env1 => sortSetT d fun xs => P (.cel false xs) env1
section
variable {X : Cx} {a : Expr} {wa : DE} {p p2 pos pos2 : Pos}
theorem dsortSetT (hc : X.calm = true) (hm : X.mg "sorted" = none) (hm2 : X.mg "set" = none) (ha : PE X a (liftE X.K Z wa)) (hg : Gl X "sorted" := by rfl) (hg2 : Gl X "set" := by rfl)
    (n1 : starEach [a] X.env = (false, eval a X.env) :: starEach [] X.env := by rfl)
    (n2 : starEach [.Call (.Name "set" p2) [a] [] pos2] X.env = (false, eval (.Call (.Name "set" p2) [a] [] pos2) X.env) :: starEach [] X.env := by rfl) :
    PE X (.Call (.Name "sorted" p) [.Call (.Name "set" p2) [a] [] pos2] [] pos) (liftX X.K Z (dSortSetT wa)) :=
  PE.of (pe_callB (callR_or (cr_sortedSet hc) (cr_sortedSS hc)) hg hm (by decide +kernel) (pa_cons (pe_callTy (callR_or (call_setI hc) (call_setS hc)) hg2 hm2 (by decide +kernel) (pa_cons ha pa_nil n1) (by decide) (by decide) n1 (by rfl)) pa_nil n2) (by decide) (by decide) n2 (by rfl)) fun σ H Q ⟨g, F, env, P, k, w, q⟩ =>
    ⟨g, F, env, _, k, w, fun d env1 v F1 H1 p e1 k1 r1 => by
      unfold sortSetT at p
      split at p
      · rename_i ds
        split at p
        · rename_i ns e
          obtain ⟨l, us, rfl, h1, h2⟩ := r1.inv_lst
          cases ints_rel h2 e
          have sb : ns.length + 1 < scanBound := by unfold scanBound; have := p.1; omega
          refine .inl ⟨l, ns, rfl, (h1.mono k1.fh).sq, sb, fun a1 c hp1 hc1 => ?_⟩
          refine .inl ⟨a1, _, c, rfl, upd_same, by have := p.1; omega, fun ms a2 s1 s2 s3 hp2 => ?_⟩
          obtain ⟨k3, r3⟩ := (k1.extra (o := SetO X.w a1 (fun j => decide (j ∈ ns)) c) hp1).newCell hp2 (drs_ints ms)
          exact q _ env1 _ F1 _ (p.2 ms s1 fun z => (s2 z).trans decide_eq_true_iff) e1 k3 r3
        · split at p
          · rename_i ns e
            obtain ⟨l, us, rfl, h1, h2⟩ := r1.inv_lst
            cases strs_rel h2 e
            have sb : ns.length + 1 < scanBound := by unfold scanBound; have := p.1; omega
            refine .inr ⟨l, ns, rfl, (h1.mono k1.fh).sq, sb, fun a1 hp1 => ?_⟩
            have hl := dd_len ns []
            refine .inr ⟨a1, _, rfl, upd_same, by have := p.1; simp only [List.length_nil] at hl; omega, fun ms a2 pm so hp2 => ?_⟩
            obtain ⟨k3, r3⟩ := (k1.extra (o := SetSO X.w a1 (dd [] ns)) hp1).newCell hp2 (drs_strs ms)
            refine q _ env1 _ F1 _ (p.2 ms (sorted_strict ms so (pm.nodup_iff.mpr (dd_nodup ns [] List.nodup_nil))) fun z => ?_) e1 k3 r3
            rw [pm.mem_iff, dd_mem]
            simp
          · exact p.elim
      · exact p.elim⟩
end
theorem q_sortSetTI {ns : List Int} {K : List PyData → Prop} : sortSetT (.list (ns.map .int)) K = (ns.length < 63 ∧ ∀ ms : List Int, ms.Pairwise (· < ·) → (∀ k, k ∈ ms ↔ k ∈ ns) → K (ms.map .int)) := by
  unfold sortSetT
  dsimp only
  rw [ints_map]
theorem q_sortSetTS {n : Str} {ns : List Str} {K : List PyData → Prop} : sortSetT (.list (.str n :: ns.map .str)) K = ((n :: ns).length < 63 ∧ ∀ ms : List Str, ms.Pairwise (fun a b => strLt a b = true) → (∀ k, k ∈ ms ↔ k ∈ n :: ns) → K (ms.map .str)) := by
  have h : strsD (.str n :: ns.map .str) = some (n :: ns) := strs_map (n :: ns)
  unfold sortSetT
  dsimp only
  rw [show intsD (.str n :: ns.map .str) = none from rfl, h]
/-- rising rows of texts with the same members are one -/
theorem riseS_uniq : ∀ {l m : List Str}, l.Pairwise (fun a b => strLt a b = true) → m.Pairwise (fun a b => strLt a b = true) → (∀ k, k ∈ l ↔ k ∈ m) → l = m
  | [], [], _, _, _ => rfl
  | [], b :: m, _, _, h => by have := (h b).mpr (List.mem_cons_self ..); simp at this
  | a :: l, [], _, _, h => by have := (h a).mp (List.mem_cons_self ..); simp at this
  | a :: l, b :: m, hl, hm, h => by
    obtain ⟨l1, l2⟩ := List.pairwise_cons.mp hl
    obtain ⟨m1, m2⟩ := List.pairwise_cons.mp hm
    have asy : ∀ {x y : Str}, strLt x y = true → strLt y x = true → False := fun p q => by
      have := strLt_trans p q
      rw [strLt_irr] at this
      exact nomatch this
    have irr : ∀ {x : Str}, strLt x x = true → False := fun p => by rw [strLt_irr] at p; exact nomatch p
    have e : a = b := by
      rcases List.mem_cons.mp ((h a).mp (List.mem_cons_self ..)) with z | z
      · exact z
      · rcases List.mem_cons.mp ((h b).mpr (List.mem_cons_self ..)) with y | y
        · exact y.symm
        · exact (asy (m1 a z) (l1 b y)).elim
    subst e
    congr 1
    refine riseS_uniq l2 m2 fun k => ⟨fun z => ?_, fun z => ?_⟩
    · rcases List.mem_cons.mp ((h k).mp (List.mem_cons_of_mem _ z)) with y | y
      · exact (irr (y ▸ l1 k z)).elim
      · exact y
    · rcases List.mem_cons.mp ((h k).mpr (List.mem_cons_of_mem _ z)) with y | y
      · exact (irr (y ▸ m1 k z)).elim
      · exact y
end DL

namespace DL
variable {T : List (PySem.Addr × PySem.Str)} {Z : Zx T}
open PySem PySem.Spec PyProof.Rows L2
open Evl (Ex)
section
variable {X : Cx} {a b e : Expr} {we wa wb : DE} {pos : Pos}
end
end DL

namespace DL
variable {T : List (PySem.Addr × PySem.Str)} {Z : Zx T}
open PySem PySem.Spec PyProof.Rows L2
open Evl (Ex)
section
variable {X : Cx} {a b e : Expr} {we wa wb : DE} {pos p p2 pos2 : Pos}
end
end DL

namespace DL
variable {T : List (PySem.Addr × PySem.Str)} {Z : Zx T}
open PySem PySem.Spec PyProof.Rows L2
open Evl (Ex)
section
variable {X : Cx}
/-- sorted(xs): the items by their data, like ones in their order -/
def rSortDD (K : PySem.W.Frag) : List V → Hp → VK → Prop := fun vs H Q => ∃ (a : Addr) (xs : List V) (ds : List PyData), vs = [V.ref a] ∧ SqL K H a xs ∧ DpAll K H xs ds ∧ PySem.W.AllAlike ds ∧ PySem.W.Sortable ds ∧ (∀ d ∈ ds, d.depth ≤ 60) ∧
  ∀ (zs : List (V × PyData)) (p : Addr), zs = (xs.zip ds).mergeSort (PySem.W.dataLe false Prod.snd) → H p = none → Q (.ref p) (upd H p (.lst (zs.map Prod.fst)))
theorem zip_snd : ∀ {xs : List V} {ds : List PyData}, xs.length = ds.length → (xs.zip ds).map Prod.snd = ds
  | [], [], _ => rfl
  | x :: xs, d :: ds, h => by
    rw [List.zip_cons_cons, List.map_cons, zip_snd (by simpa using h)]
theorem DpAll.len {K : PySem.W.Frag} {H : Hp} : ∀ {xs : List V} {ds : List PyData}, DpAll K H xs ds → xs.length = ds.length
  | [], [], _ => rfl
  | _ :: _, _ :: _, .cons _ t => by rw [List.length_cons, List.length_cons, DpAll.len t]
theorem each_zip {R : Value → V × PyData → Prop} {h : Heap} : ∀ {its : List Value} {xs : List V} {ds : List PyData} {as : List Addr}, Vals xs its → ReadsAll h its ds as → PySem.W.EachIs (fun v (p : V × PyData) => RelV p.1 v ∧ ∃ as, Reads h v p.2 as) its (xs.zip ds)
  | _, [], ds, _, r, t => by
    cases r
    exact .nil
  | _, x :: xs, [], _, r, t => by
    cases t
    cases r
  | _, x :: xs, d :: ds, _, r, t => by
    cases r with
    | cons r1 r2 =>
      cases t with
      | cons t1 t2 => exact .cons ⟨r1, _, t1⟩ (each_zip (R := R) r2 t2)
theorem vals_each {R : Value → V × PyData → Prop} : ∀ {out : List Value} {zs : List (V × PyData)}, PySem.W.EachIs (fun v (p : V × PyData) => RelV p.1 v) out zs → Vals (zs.map Prod.fst) out
  | _, _, .nil => .nil
  | _, _, .cons a t => .cons a (vals_each (R := R) t)
theorem cr_sortedDD (hu : X.A.units + 65 < cLine) : CallR X (.builtin "sorted") (rSortDD X.K) := by
  intro pins s σ H vs us Q I r h
  obtain ⟨a, xs, ds, rfl, hs, hd, hal, hk, hdep, q⟩ := h
  rw [Vals.ref1 r]
  obtain ⟨its, rv, pl, hz⟩ := I.list hs
  obtain ⟨as, h4⟩ := Dp.readsAll I ds _ its hd rv
  have hlen := DpAll.len hd
  have e := each_zip (R := fun _ _ => True) rv h4
  have es : (xs.zip ds).map Prod.snd = ds := zip_snd hlen
  have lz : (xs.zip ds).length = xs.length := by rw [List.length_zip, hlen, Nat.min_self]
  refine PySem.W.sorted_data (R := fun v (p : V × PyData) => RelV p.1 v) (enc := Prod.snd) (bs := xs.zip ds) pl.isList (e.mono fun _ _ z => z.1) (e.mono fun _ _ z => z.2) (by rw [es]; exact hal) (by rw [es]; exact hk) (by rw [lz]; exact hz) (fun p hp => ?_) fun out hol ho => ?_
  · have : p.2 ∈ ds := by rw [← es]; exact List.mem_map.mpr ⟨p, hp, rfl⟩
    have := hdep _ this
    omega
  · obtain ⟨c, hc⟩ := sortedAll_at s.heap its (List.toArray out)
    have hn := I.hok.fresh (Nat.le_succ s.heap.objs.size)
    refine ⟨.ref (s.heap.objs.size + 1), upd H (s.heap.objs.size + 1) (.lst (((xs.zip ds).mergeSort (PySem.W.dataLe false Prod.snd)).map Prod.fst)), I.laid (t' := s.toks) (fun b u hb => sortedAll_old hb) (Nat.le_succ _) ⟨?_, out, c, vals_each (R := fun _ _ => True) ho, hc⟩, rfl, q _ _ rfl hn⟩
    rw [List.length_map, List.length_mergeSort, lz]
    exact hz
end
def sortD (ds : List PyData) : List PyData := ds.mergeSort (PySem.W.dataLe false id)
def sortOk (ds : List PyData) : Prop := PySem.W.AllAlike ds ∧ PySem.W.Sortable ds ∧ (∀ d ∈ ds, d.depth ≤ 60) ∧ PyData.hasDictAll ds = false
def sortedQ (d : PyData) (K : List PyData → Prop) : Prop := match d with
  | .list ds => sortOk ds ∧ K (sortD ds)
  | _ => False
theorem q_sorted {ds : List PyData} {K : List PyData → Prop} : sortedQ (.list ds) K = (sortOk ds ∧ K (sortD ds)) := rfl
theorem sortD_perm (ds : List PyData) : (sortD ds).Perm ds := List.mergeSort_perm _ _
theorem sortD_pair (ds : List PyData) : (sortD ds).Pairwise fun a b => PySem.W.dataLe false id a b = true := PySem.W.sort_pairwise (PySem.W.sortLe_total _ _ _) ds
theorem drs_zip {K : PySem.W.Frag} {F : Hp} : ∀ {xs : List V} {ds : List PyData}, DRs K F xs ds → ∀ p ∈ xs.zip ds, DR K F p.1 p.2
  | [], _, _, p, h => by simp at h
  | x :: xs, [], r, p, h => by simp at h
  | x :: xs, d :: ds, r, p, h => by
    cases r with
    | cons a b =>
      rw [List.zip_cons_cons] at h
      rcases List.mem_cons.mp h with rfl | h
      · exact a
      · exact drs_zip b p h
theorem drs_of {K : PySem.W.Frag} {F : Hp} : ∀ {zs : List (V × PyData)}, (∀ p ∈ zs, DR K F p.1 p.2) → DRs K F (zs.map Prod.fst) (zs.map Prod.snd)
  | [], _ => .nil
  | z :: zs, h => .cons (h z List.mem_cons_self) (drs_of fun p hp => h p (List.mem_cons_of_mem _ hp))
abbrev dSorted (wa : DE) (env : List SD) (P : SD → List SD → Prop) : Prop := wa env fun d env1 => sortedQ d fun xs => P (.cel false xs) env1
section
variable {X : Cx} {a : Expr} {wa : DE} {p pos : Pos}
theorem dsorted {k : Nat} (hr : Room k X.A) (hm : X.mg "sorted" = none) (ha : PE X a (liftE X.K Z wa)) (hg : Gl X "sorted" := by rfl)
    (n1 : starEach [a] X.env = (false, eval a X.env) :: starEach [] X.env := by rfl) :
    PE X (.Call (.Name "sorted" p) [a] [] pos) (liftX X.K Z (dSorted wa)) :=
  PE.of (pe_callB (cr_sortedDD hr.u65) hg hm (by decide +kernel) (pa_cons ha pa_nil n1) (by decide) (by decide) n1 (by rfl)) fun σ H Q ⟨g, F, env, P, k, w, q⟩ =>
    ⟨g, F, env, _, k, w, fun d env1 v F1 H1 p e1 k1 r1 => by
      unfold sortedQ at p
      split at p
      · rename_i ds
        obtain ⟨⟨s1, s2, s3, s4⟩, p⟩ := p
        obtain ⟨l, us, rfl, h1, h2⟩ := r1.inv_lst
        refine ⟨l, us, ds, rfl, (h1.mono k1.fh).sq, DRs.dp (drsH k1 h2) s4, s1, s2, s3, fun zs a2 ez hp2 => ?_⟩
        subst ez
        have hl := h2.length
        have em : ((us.zip ds).mergeSort (PySem.W.dataLe false Prod.snd)).map Prod.snd = sortD ds := by
          have := PySem.W.sort_maps (r := PySem.W.dataLe false (Prod.snd (α := V))) (s := PySem.W.dataLe false id) Prod.snd (l := us.zip ds) (fun _ _ _ _ => rfl)
          rw [this, zip_snd hl]
          rfl
        have dr := drs_of (zs := (us.zip ds).mergeSort (PySem.W.dataLe false Prod.snd)) fun p hp => drs_zip h2 p ((List.mergeSort_perm _ _).mem_iff.mp hp)
        rw [em] at dr
        obtain ⟨k3, r3⟩ := k1.newCell hp2 dr
        exact q _ env1 _ F1 _ p e1 k3 r3
      · exact p.elim⟩
end
end DL

namespace DL
variable {T : List (PySem.Addr × PySem.Str)} {Z : Zx T}
open PySem PySem.Spec PyProof.Rows L2
open Evl (Ex)
section
variable {X : Cx}
variable {e : Expr} {es : List Expr} {was : DA} {pos p : Pos}
end
end DL

namespace DL
variable {T : List (PySem.Addr × PySem.Str)} {Z : Zx T}
open PySem PySem.Spec PyProof.Rows L2
section
variable {fa : List He.Fa} {fn : List He.FnD} {K : PySem.W.Frag} {mg : Str → Option Value}
end
end DL

namespace DL
variable {T : List (PySem.Addr × PySem.Str)} {Z : Zx T}
open PySem PySem.Spec PyProof.Rows L2
open Evl (Ex)
section
variable {X : Cx} {pins : List (Addr × Obj)} {σ : L2.St} {H : Hp} {s : Shared}
theorem TqT.obj (I : Inv X pins σ H s) {a : Addr} {xs : List V} (h : TqT X.K H a xs) : ∃ o, s.heap.get? a = some o ∧ PlT o := by
  rcases h with ⟨o, h, p⟩ | ⟨o, _, _, h, p, _⟩
  · exact ⟨o, (I.hok a _ h).1, p⟩
  · exact ⟨o, I.kIn a o h, p⟩
end
section
variable {X : Cx}
end
section
variable {X : Cx} {a e : Expr} {wa we : DE} {apos cpos : Pos}
end
end DL

namespace DL
variable {T : List (PySem.Addr × PySem.Str)} {Z : Zx T}
open PySem PySem.Spec PyProof.Rows L2 PySem.W
open Evl (Ex)
section
variable {prog : Program} {w : World} {A : Around} {E : Value → Shared → Prop} {s : Shared}
end
section
variable {X : Cx}
end
section
variable {X : Cx} {a : Expr} {wa : DE} {p pos : Pos}
end
end DL

namespace DL
variable {T : List (PySem.Addr × PySem.Str)} {Z : Zx T}
open PySem PySem.Spec PyProof.Rows L2 PySem.W
open Evl (Ex)
def kyOf : PyData → Option Key
  | .int n => some (.inl n)
  | .str x => some (.inr x)
  | _ => none
def kysOf : List PyData → Option (List Key)
  | [] => some []
  | d :: r => match kyOf d, kysOf r with
    | some k, some ks => some (k :: ks)
    | _, _ => none
def ktOf : PyData → Option (List Key)
  | .tuple ds => kysOf ds
  | _ => none
def keyD : Key → PyData
  | .inl n => .int n
  | .inr x => .str x
abbrev KVD := List (List Key × PyData)
def atD (kvs : KVD) (k : List Key) : Option PyData := (kvs.find? fun p => decide (p.1 = k)).map (·.2)
def putD (kvs : KVD) (k : List Key) (d : PyData) : KVD := if (atD kvs k).isSome = true then kvs.map (fun p => if p.1 = k then (p.1, d) else p) else kvs ++ [(k, d)]
theorem ky_val {K : PySem.W.Frag} {F : Hp} {v : V} {d : PyData} {k : Key} (h : kyOf d = some k) (r : DR K F v d) : v = kV k := by
  cases d with
  | int n => cases h; cases r; rfl
  | str x => cases h; cases r; rfl
  | _ => cases h
theorem kys_vals {K : PySem.W.Frag} {F : Hp} : ∀ {vs : List V} {ds : List PyData} {ks : List Key}, kysOf ds = some ks → DRs K F vs ds → vs = ks.map kV
  | _, _, _, h, .nil => by cases h; rfl
  | _, d :: r, _, h, .cons a b => by
    unfold kysOf at h
    split at h
    · rename_i k ks e1 e2
      cases h
      rw [List.map_cons, ky_val e1 a, kys_vals e2 b]
    · cases h
section
variable {K : PySem.W.Frag} {F : Hp}
theorem DicR.val {kvs : KVD} {xs : List (List Key × Addr × Value)} (r : DicR K F kvs xs) (k : List Key) : (atD kvs k = none ∧ atKey xs k = none) ∨ ∃ d p v, atD kvs k = some d ∧ atKey xs k = some p ∧ DR K F v d ∧ RelV v p.2 := by
  unfold DicR at r
  induction r with
  | nil => exact .inl ⟨rfl, rfl⟩
  | @cons p q ps qs h t ih =>
    obtain ⟨h1, _, v, h2, h3⟩ := h
    by_cases e : p.1 = k
    · exact .inr ⟨p.2, q.2, v, by simp [atD, List.find?_cons, e], by simp [atKey, List.find?_cons, ← h1, e], h2, h3⟩
    · have e' : ¬ q.1 = k := fun z => e (h1.trans z)
      have a : atD (p :: ps) k = atD ps k := by simp [atD, List.find?_cons, e]
      have b : atKey (q :: qs) k = atKey qs k := by simp [atKey, List.find?_cons, e']
      rw [a, b]
      exact ih
theorem DicR.put {kvs : KVD} {xs : List (List Key × Addr × Value)} (r : DicR K F kvs xs) (k : List Key) {b : Addr} {d : PyData} {v : V} {u : Value} (hb : TqT K F b (k.map kV)) (hd : DR K F v d) (hu : RelV v u) : DicR K F (putD kvs k d) (storedH xs k b u) := by
  have e : (atD kvs k).isSome = (atKey xs k).isSome := by
    rcases r.val k with ⟨e1, e2⟩ | ⟨_, _, _, e1, e2, _⟩ <;> rw [e1, e2] <;> rfl
  unfold putD storedH
  rw [e]
  by_cases q : (atKey xs k).isSome = true
  · rw [if_pos q, if_pos q]
    clear e q
    unfold DicR at r ⊢
    induction r with
    | nil => exact .nil
    | @cons p q ps qs h t ih =>
      rw [List.map_cons, List.map_cons]
      refine .cons ?_ ih
      obtain ⟨h1, h2, h3⟩ := h
      unfold putAt
      by_cases e : p.1 = k
      · rw [if_pos e, if_pos (h1.symm.trans e)]; exact ⟨h1, h2, v, hd, hu⟩
      · rw [if_neg e, if_neg (fun z => e (h1.trans z))]; exact ⟨h1, h2, h3⟩
  · rw [if_neg q, if_neg q]
    exact Paired.snoc r ⟨rfl, hb, v, hd, hu⟩
end
theorem storedH_len {xs : List (List Key × Addr × Value)} {k : List Key} {b : Addr} {u : Value} : (storedH xs k b u).length ≤ xs.length + 1 := by
  unfold storedH
  split <;> simp
section
variable {X : Cx} {pins : List (Addr × Obj)} {σ : L2.St} {H : Hp} {s : Shared} {a b : Addr} {F : Hp} {kvs : KVD} {xs : List (List Key × Addr × Value)}
theorem key_sq {ks : List Key} (I : Inv X pins σ H s) (h : SqT X.K H b (ks.map kV)) : (tupleKind (mixKind X.prog X.w)).is s.heap ks b := by
  obtain ⟨its, r, ⟨o, ho, hc, n, hd⟩, _⟩ := I.tuple h
  exact ⟨o, its.toArray, n, ho, hc, hd, by simpa using items_are r⟩
theorem dic_at (I : Inv X pins σ H s) (fh : Ex F H) (e : H a = some (DicE X.prog X.w a xs)) (r : DicR X.K F kvs xs) : (a == sysModules) = false ∧ xs.length ≤ sizeLine ∧ s.heap.DictOfH (tupleKind (mixKind X.prog X.w)) a xs := by
  have z : ObjOk X.prog X.w H s.heap a (DicE X.prog X.w a xs) := I.hok a _ e
  obtain ⟨⟨⟨z1, z2⟩, o, es, ep, h1, h2, h3, h4, h5⟩, _, _⟩ := z
  refine ⟨z1, z2, o, es, ep, h1, h2, h3, h4, fun x hx => ?_, h5⟩
  obtain ⟨p, e1, e2, _⟩ := Paired.right r x hx
  exact key_sq I (by rw [← e1]; exact (e2.mono fh).sq)
theorem dic_new {P : Program} {w : World} {H' : Hp} {h' : Heap} {o : Obj} {es : Array DictEntry} {ep : Nat} (z1 : (a == sysModules) = false) (z2 : xs.length ≤ sizeLine) (h1 : h'.get? a = some o) (h2 : o.ExactDict) (h3 : o.data = .dict es ep) (h4 : es.toList = xs.map (entryOfKey (tupleKind (mixKind P w)))) (h5 : (xs.map (·.1)).Nodup) : ObjOk P w H' h' a (DicE P w a xs) :=
  ⟨⟨⟨z1, z2⟩, o, es, ep, h1, h2, h3, h4, h5⟩, ⟨o, h1⟩, fun _ _ ⟨z, o, es, ep, h1, r⟩ k => ⟨z, o, es, ep, k o h1, r⟩⟩
def rSetX (P : Program) (w : World) (K : PySem.W.Frag) : TSet := fun o i v H Q => ∃ (a b : Addr) (xs : List (List Key × Addr × Value)) (kvs : KVD) (k : List Key) (F : Hp), o = .ref a ∧ i = .ref b ∧ Ex F H ∧ H a = some (DicE P w a xs) ∧ DicR K F kvs xs ∧ TqT K F b (k.map kV) ∧ xs.length < sizeLine ∧ ∀ u, RelV v u → Q (upd H a (DicE P w a (storedH xs k b u)))
theorem set_dic (hu : X.A.units + 1 < cLine) : PSet X (rSetX X.prog X.w X.K) := by
  intro pins s σ H o i v ov iv u Q I ro ri rv h
  obtain ⟨a, b, xs, kvs, k, F, rfl, rfl, fh, e, r, hk, hl, q⟩ := h
  cases ro
  cases ri
  obtain ⟨z1, z2, dd⟩ := dic_at I fh e r
  refine wpAny_setItem_heap (hsz := z2) (tupleKind_room_in1 hu) (key_sq I (hk.mono fh).sq) dd fun h' dd' hs => ⟨_, ?_, q u rv⟩
  obtain ⟨o, es, ep, h1, h2, h3, h4, _, h5⟩ := dd'
  refine d_write I (by rw [e]; exact True.intro) hs ⟨o, h1⟩ (dic_new z1 ?_ h1 h2 h3 h4 h5)
  have := storedH_len (xs := xs) (k := k) (b := b) (u := u)
  omega
/-- {} as such a dict -/
def tDNewO (P : Program) (w : World) : TE := fun _ H Q => ∀ p, H p = none → Q (.ref p) (upd H p (DicE P w p []))
theorem pe_dnewO {pos : Pos} : PE X (.Dict [] [] pos) (tDNewO X.prog X.w) := ⟨fun pins s σ H Q I h =>
  wpAny_Dict_empty ⟨.ref s.heap.objs.size, _, I.laid (a := s.heap.objs.size) (t' := s.toks) (fun _ _ q => Heap.get?_push_of_some _ q) (Nat.le_refl _)
    (dic_new (xs := []) (es := #[]) (ep := 0) (beq_eq_false_iff_ne.mpr (Ne.symm (Nat.ne_of_lt I.big))) (Nat.zero_le _) (Heap.get?_push_size _ rfl) ⟨rfl, rfl, rfl⟩ rfl rfl List.nodup_nil), rfl, h _ (I.hok.fresh (Nat.le_refl _))⟩⟩
end
section
variable {K : PySem.W.Frag} {g : Gx Z} {F : Hp} {env : List SD} {σ : L2.St} {H : Hp}
theorem Ok.writeK (k : Ok K g F env σ H) {i : Nat} {kvs kvs' : KVD} {a : Addr} {xs xs' : List (List Key × Addr × Value)} (he : env[i]? = some (.dic (.tk kvs))) (hs : σ[i]? = some (some (.ref a))) (hH : H a = some (DicE Z.P Z.w a xs)) (r : DicR K F kvs' xs') :
    Ok K g F (env.set i (.dic (.tk kvs'))) σ (upd H a (DicE Z.P Z.w a xs')) := by
  obtain ⟨B, db⟩ := k.dic
  obtain ⟨f1, f2, f3, _⟩ := db.there he hs List.mem_cons_self
  refine k.writeW db he hs List.mem_cons_self hH (fun q => dicE_code) ⟨⟨rfl, xs', upd_same, r⟩, fun x hx => ?_⟩ (fun y hy => by simp at hy)
  rw [List.mem_singleton.mp hx]
  exact ⟨f1, f2, f3, _, upd_same⟩
theorem Ok.newK (k : Ok K g F env σ H) {i : Nat} {p : Addr} (hp : H p = none) (np : NoPar env i) : Ok K g F (env.set i (.dic (.tk []))) (σ.set i (some (.ref p))) (upd H p (DicE Z.P Z.w p [])) :=
  k.newW hp np ⟨rfl, [], upd_same, .nil⟩
theorem Ok.tkAt (k : Ok K g F env σ H) {i : Nat} {kvs : KVD} (he : env[i]? = some (.dic (.tk kvs))) : ∃ a xs, σ[i]? = some (some (.ref a)) ∧ F a = none ∧ H a = some (DicE Z.P Z.w a xs) ∧ DicR K F kvs xs := by
  obtain ⟨B, db⟩ := k.dic
  obtain ⟨a, h1, h2⟩ := db.at_ i _ he
  obtain ⟨_, xs, h3, h4⟩ := h2.rel
  exact ⟨a, xs, h1, (h2.out a List.mem_cons_self).1, h3, h4⟩
theorem Ok.ownAt (k : Ok K g F env σ H) {i : Nat} {w : Own} (he : env[i]? = some (.dic w)) : ∃ a, σ[i]? = some (some (.ref a)) := by
  obtain ⟨B, db⟩ := k.dic
  obtain ⟨a, h1, h2⟩ := db.at_ i _ he
  exact ⟨a, h1⟩
end
def putQ (kvs : KVD) (y d : PyData) (K : KVD → Prop) : Prop := match ktOf y with
  | some k => kvs.length < 100000 ∧ K (putD kvs k d)
  | none => False
def inkQ (n : Bool) (kvs : KVD) (y : PyData) (K : PyData → Prop) : Prop := match ktOf y with
  | some k => K (.bool ((atD kvs k).isSome != n))
  | none => False
theorem q_put {kvs : KVD} {y d : PyData} {k : List Key} {K : KVD → Prop} (h : ktOf y = some k) : putQ kvs y d K = (kvs.length < 100000 ∧ K (putD kvs k d)) := by unfold putQ; rw [h]
theorem q_ink {n : Bool} {kvs : KVD} {y : PyData} {k : List Key} {K : PyData → Prop} (h : ktOf y = some k) : inkQ n kvs y K = K (.bool ((atD kvs k).isSome != n)) := by unfold inkQ; rw [h]
/-- a datum that is such a key -/
theorem kt_key {K : PySem.W.Frag} {F : Hp} {v : V} {y : PyData} {k : List Key} (h : ktOf y = some k) (r : DR K F v y) : ∃ b, v = .ref b ∧ TqT K F b (k.map kV) := by
  cases y with
  | tuple ds =>
    obtain ⟨b, us, rfl, h1, h2⟩ := r.inv_tupZ
    rw [kys_vals (ks := k) h h2] at h1
    exact ⟨b, rfl, h1⟩
  | _ => cases h
section
variable {X : Cx} {e b : Expr} {we wb : DE} {m : Nat} {pos : Pos}
/-- x = {} -/
abbrev dDNew (i : Nat) (E : DEnds) (env : List SD) : Prop := bIf (noPar env i) (E.nx (env.set i (.dic (.tk [])))) False
theorem sdnew (i : Nat) {x : Str} {pos' p2 : Pos} (hN : X.N.Nodup) (hP : Z.P = X.prog) (hW : Z.w = X.w) (hi : X.N[i]? = some x := by rfl) (hx : Loc X.env.scope x := by first | exact Or.inl rfl | exact Or.inr rfl) (hs : swapsWith (.Dict [] [] p2) (some (.Name x pos')) pos.line X.env = pure false := by rfl)
    (hf : X.fn x = true ∨ X.env.scope.names.lookup x = some .local := by first | exact .inl rfl | exact .inr rfl) : PS X (.Assign [.Name x pos'] (.Dict [] [] p2) pos) (liftS X.K Z m (dDNew i)) := PS.of (ps_set hN hi hx pe_dnewO hs hf) fun D σ H ⟨g, F, env, P, k, w, q⟩ => by
  obtain ⟨w1, w2⟩ := bIf_and w
  refine fun p hp => q.nx _ _ F _ w2 (Ex.refl F) ?_
  have := k.newK hp (noPar_of w1)
  rw [hP, hW] at this
  exact this
/-- x[k] = v -/
abbrev dDPut (i : Nat) (wi we : DE) (E : DEnds) (env : List SD) : Prop := we env fun d env1 => match env1[i]? with
  | some (.dic _) => wi env1 fun y env2 => match env2[i]? with
    | some (.dic (.tk kvs)) => putQ kvs y d fun kvs' => E.nx (env2.set i (.dic (.tk kvs')))
    | _ => False
  | _ => False
theorem sdput (i : Nat) {k0 : Nat} {x : Str} {p0 p1 : Pos} (hr : Room k0 X.A) (hP : Z.P = X.prog) (hW : Z.w = X.w) (he : PE X e (liftE X.K Z we)) (hi : PE X b (liftE X.K Z wb)) (hN : X.N[i]? = some x := by rfl) (hv : Vis X.env.scope x := by first | exact Or.inl rfl | exact Or.inr (Or.inl rfl) | exact Or.inr (Or.inr rfl)) (hd : (x == ("__debug__" : Str)) = false := by decide)
    (hcd : (x == ("__classdict__" : Str)) = false := by decide)
    (hs : swapsWithSole [.Subscript (.Name x p0) b p1] e pos.line X.env = pure false := by rfl) (hw : swappedStores [.Subscript (.Name x p0) b p1] e X.env = pure none := by rfl)
    (h1 : (assignEach [.Subscript (.Name x p0) b p1] X.env).map (·.2) = [assign (.Subscript (.Name x p0) b p1) X.env] := by rfl)
    (ha : ∀ v, assign (.Subscript (.Name x p0) b p1) X.env v = (do
      let ov ← holding [v] (eval (.Name x p0) X.env)
      let iv ← holding [v, ov] (eval b X.env)
      standAt p1
      holding [v, ov, iv] (setItem ov iv v)
      release [v, ov, iv] []) := by intro _; rfl) : PS X (.Assign [.Subscript (.Name x p0) b p1] e pos) (liftS X.K Z m (dDPut i wb we)) :=
  PS.of (ps_asg he (pg_sub (pe_var hN hv hd hcd) hi (set_dic (by have := hr.u65; omega)) ha) hs hw h1) fun D σ H ⟨g, F, env, P, k, w, q⟩ =>
  ⟨g, F, env, _, k, w, fun d env1 v F1 H1 p e1 k1 r1 => by
    split at p
    · rename_i kvs0 ex
      obtain ⟨a0, b1⟩ := k1.ownAt ex
      refine ⟨_, b1, g, F1, env1, _, k1, p, fun d2 env2 v2 F2 H2 p2 e2 k2 r2 => ?_⟩
      split at p2
      · rename_i kvs ex2
        unfold putQ at p2
        split at p2
        · rename_i kk ek
          obtain ⟨hl, p2⟩ := p2
          obtain ⟨a1, xs, c1, c2, c3, c4⟩ := k2.tkAt ex2
          rw [b1] at c1
          cases c1
          obtain ⟨b2, rfl, tq⟩ := kt_key ek r2
          have lx : xs.length = kvs.length := (Paired.length c4).symm
          rw [hP, hW] at c3
          refine ⟨a0, b2, xs, kvs, kk, F2, rfl, rfl, k2.fh, c3, c4, tq, by rw [lx, sizeLine_eq]; omega, fun u ru => ?_⟩
          rw [← hP, ← hW] at c3
          have := k2.writeK ex2 b1 c3 (c4.put kk tq (r1.mono e2) ru)
          rw [hP, hW] at this
          exact q.nx _ σ F2 _ p2 (e1.trans e2) this
        · exact p2.elim
      · exact p2.elim
    · exact p.elim⟩
end
end DL

namespace DL
variable {T : List (PySem.Addr × PySem.Str)} {Z : Zx T}
open PySem PySem.Spec PyProof.Rows L2 PySem.W
open Evl (Ex)
section
variable {X : Cx}
def rInX (n : Bool) (P : Program) (w : World) (K : PySem.W.Frag) : R2 := fun x y H Q => ∃ (a b : Addr) (xs : List (List Key × Addr × Value)) (kvs : KVD) (k : List Key) (F : Hp), y = .ref a ∧ x = .ref b ∧ Ex F H ∧ H a = some (DicE P w a xs) ∧ DicR K F kvs xs ∧ TqT K F b (k.map kV) ∧ Q (.bl ((atD kvs k).isSome != n)) H
theorem op_ninX (hu : X.A.units + 1 < cLine) : OpR X (compareOp .NotIn) (rInX true X.prog X.w X.K) := by
  intro pins s σ H x y v u Q I rx ry h
  obtain ⟨a, b, xs, kvs, k, F, rfl, rfl, fh, e, r, tk, q⟩ := h
  cases rx
  cases ry
  obtain ⟨z1, z2, dd⟩ := dic_at I fh e r
  refine wpAny_notIn_heap (tupleKind_room_in1 hu) (key_sq I (tk.mono fh).sq) z1 dd ⟨.bl (!(atKey xs k).isSome), H, I.tok _, rfl, ?_⟩
  rcases r.val k with ⟨n1, n2⟩ | ⟨d, p, v, n1, n2, _⟩ <;> (rw [n1] at q; rw [n2]; simpa using q)
abbrev dDIn (n : Bool) (i : Nat) (wa : DE) (env : List SD) (P : PyData → List SD → Prop) : Prop := wa env fun y env1 => match env1[i]? with
  | some (.dic (.tk kvs)) => inkQ n kvs y fun d => P d env1
  | _ => False
theorem lift_dIn {n : Bool} {i : Nat} {wa : DE} (hP : Z.P = X.prog) (hW : Z.w = X.w) {σ : L2.St} {H : Hp} {Q : VK} (h : liftE X.K Z (dDIn n i wa) σ H Q) : tOp (rInX n X.prog X.w X.K) (liftE X.K Z wa) (fun σ H Q => ∃ v, σ[i]? = some (some v) ∧ Q v H) σ H Q := by
  obtain ⟨g, F, env, P, k, w, q⟩ := h
  refine ⟨g, F, env, _, k, w, fun y env1 v1 F1 H1 p1 e1 k1 r1 => ?_⟩
  split at p1
  · rename_i kvs ex
    obtain ⟨a, xs, b1, b2, b3, b4⟩ := k1.tkAt ex
    rw [hP, hW] at b3
    unfold inkQ at p1
    split at p1
    · rename_i kk ek
      obtain ⟨b, rfl, tq⟩ := kt_key ek r1
      exact ⟨_, b1, a, b, xs, kvs, kk, F1, rfl, rfl, k1.fh, b3, b4, tq, q _ env1 _ F1 H1 p1 e1 k1 (.bl _)⟩
    · exact p1.elim
  · exact p1.elim
section
variable {k0 : Nat} {a : Expr} {pos p0 : Pos} {x : Str} {wa : DE}
theorem tdnin (i : Nat) (hr : Room k0 X.A) (hP : Z.P = X.prog) (hW : Z.w = X.w) (ha : PE X a (liftE X.K Z wa)) (hN : X.N[i]? = some x := by rfl) (hv : Vis X.env.scope x := by first | exact Or.inl rfl | exact Or.inr (Or.inl rfl) | exact Or.inr (Or.inr rfl)) (hd : (x == ("__debug__" : Str)) = false := by decide)
    (hcd : (x == ("__classdict__" : Str)) = false := by decide) (hm : behindInMarks .NotIn (.Name x p0) = false := by rfl) : PT X (.Compare a [.NotIn] [.Name x p0] pos) (liftT X.K Z (dTest (dDIn true i wa))) :=
  PT.of (pt_cmpR (op_ninX (by have := hr.u65; omega)) ha (pe_var hN hv hd hcd) hm) fun _ _ _ h => lift_test (fun _ _ _ h => lift_dIn hP hW h) h
end
end
end DL

namespace DL
variable {T : List (PySem.Addr × PySem.Str)} {Z : Zx T}
open PySem PySem.Spec PyProof.Rows L2
open Evl (Ex)
section
variable {P : Program} {w : World} {K : PySem.W.Frag} {mg : Str → Option Value} {base : Heap}
theorem dfnW (m : Nat) {x qual : Str} {st : Stmt} {f : Addr} {fd : FuncData} {N ps : List Str} {k : Nat} {S : DSp} (Fn : Fun K x qual st f fd) (sc : FnScope N ps (defScope st)) (len : ∀ as Q, S as Q → as.length = ps.length) (cels : CelsIn m S)
    (hbody : ∀ {Z : Zx T} (cdv : Value) (A : Around) (outer : List Env) (s : Shared) (H : Hp), Z.P = P → Z.w = w → Room k (A.deeper (envOfC qual (defScope st) s.heap.objs.size f cdv)) → (A.deeper (envOfC qual (defScope st) s.heap.objs.size f cdv)).guards = some [] →
      ∃ t : DS, PSs (cxOf CX0 P w K mg base N qual (defScope st) f cdv A outer s H E0).nox (defBody st) (liftS K Z m t) ∧
        ∀ as Q, S as Q → t (defEnds m Q) (as ++ List.replicate (N.length - ps.length) .un)) : FnG P w K mg base T (k + 1) f fd ps S := by
  obtain ⟨oc, od, kV, doc, pm, an, cdv, ct, osl, rfl, lk, hcd⟩ := Fn.ex
  refine ⟨len, fun A outer s H args us vs Q hr hg e0 hb rv ⟨F0, as, PP, ha, hS, hQ⟩ => ?_⟩
  have hl : vs.length = ps.length := ha.len.symm.trans (len as PP hS)
  have hpl : ps.length ≤ N.length := by
    have := congrArg List.length sc.pre
    rw [List.length_take] at this
    omega
  have KX : K.In s.heap := e0.mod.kin.keeps fun b o e => (e0.bs b o e).1
  refine codeAny_call_function hr.depth (KX _ _ lk) rfl sc.co sc.gen rfl (PySem.W.codeRec_of KX hcd) (hb _ _ _ _ (wpAny_newFunctionEnv_cells sc.kind (fun ⟨n, v⟩ hy => ?_) fun env he s1 x => ?_))
  · rcases sc.par n (List.of_mem_zip hy).1 with q | q
    · exact .inl q
    · exact .inr ⟨q, PySem.W.cellsFrom_some _ _ _ (.inl q)⟩
  · subst he
    obtain ⟨t, ht, hq⟩ := hbody (Z := entryZ T P w F0 H vs as) cdv A outer s H rfl rfl (hr.deeper _) hg
    have I : Inv (cxOf CX0 P w K mg base N qual (defScope st) f cdv A outer s H E0) [] (start N vs) H s1 := inv_start sc hr.hd e0 hl rv x
    refine ⟨(e0.mod.nolimit.keeps fun b o e => (e0.bs b o e).1).keeps x.toInCall.keep, codeAny_func (wpAny_mono (ht.nox.run [] s1 (start N vs) H { nx := fun _ H' => Q .non H', rt := Q } I ?_) (fun fl s' hs => ?_) fun e s' hs => hs)⟩
    · have al : as.length = ps.length := len as PP hS
      refine ⟨entryG T P w F0 H vs as, F0, _, _, entry_ok ha al hpl, hq as PP hS, ?_⟩
      exact .mk4 (.mk (fun env' σ' F' H' p _ k' => hQ _ _ _ _ _ p (post_of k' (cels _ _ hS) .non)) (fun _ _ _ _ p => p.elim) (fun _ _ _ _ p => p.elim) (fun r env' v σ' F' H' p _ k' r' => hQ _ _ _ _ _ p (post_of k' (cels _ _ hS) r'))) rfl
    · have fin : ∀ {σ' : L2.St} {H' : Hp} {v : V} {u : Value}, Inv (cxOf CX0 P w K mg base N qual (defScope st) f cdv A outer s H E0) [] σ' H' s' → RelV v u → Q v H' → CE outer P w H s Q u s' :=
        fun {σ' H' v u} J r q => ⟨v, H', J.os, J.bare, J.base, J.hok, r, q⟩
      match fl, hs with
      | .ret u, ⟨v, σ', H', J, r, q⟩ => exact fin J r q
      | .next, ⟨σ', H', J, q⟩ => exact fin (v := V.non) (u := Value.none) J rfl q
      | .brk, ⟨_, _, _, q⟩ => exact q.elim
      | .cont, ⟨_, _, _, q⟩ => exact q.elim
end
end DL

namespace DL
variable {T : List (PySem.Addr × PySem.Str)} {Z : Zx T}
open PySem PySem.Spec PyProof.Rows L2
open Evl (Ex)
section
variable {X : Cx}
end
end DL

namespace DL
variable {T : List (PySem.Addr × PySem.Str)} {Z : Zx T}
open PySem PySem.Spec PyProof.Rows L2
open Evl (Ex)
section
variable {prog : Program} {w : World} {A : Around} {E : Value → Shared → Prop} {s : Shared}
end
section
variable {X : Cx} {es : List Expr} {pos : Pos}
end
end DL

namespace DL
variable {T : List (PySem.Addr × PySem.Str)} {Z : Zx T}
open PySem PySem.Spec PyProof.Rows L2
open Evl (Ex)

section
variable {M : Model} {A : Around} {E1 : Value → Shared → Prop} {s : Shared} {B : Heap} {env : Env} {outer : List Env} {L C a : Addr} {Zp : Obj → Prop} {Q : Unit → Shared → Prop}
end
section
variable {X : Cx} {pins : List (Addr × Obj)} {σ : L2.St} {H : Hp} {s : Shared}
end
section
variable {X : Cx} {elt tg iter : Expr} {ifs : List Expr} {scope : Scope} {own : List (Str × Nat)} {pos : Pos} {wi : DI} {t : CT} {c : DT} {we : DE} {m : Nat} {I S : Type} {dec : List SD → Option (I × S)} {emb : I → S → List SD} {qb : PyData → I → S → (I → S → Prop) → (PyData → I → S → Prop) → Prop}
end
section
variable {P : Program} {w : World} {K : PySem.W.Frag} {mg : Str → Option Value} {base : Heap}
end
end DL

namespace DL
open PySem PySem.Spec PyProof.Rows L2
section
variable {P : Program} {w : World} {κ : Type} [DecidableEq κ] {kd : KeyKind P w κ}
/-- parts that show nothing when hashed or compared -/
def Mute (kd : KeyKind P w κ) : Prop := ∀ (k : κ) (v : Value), kd.is k v = true → (∀ n, ofAClassStatement n v = pure false) ∧ ∀ n, ∃ b, hashByValue n v = pure b
theorem mute_mix {P : Program} {w : World} : Mute (mixKind P w) := fun k v h => by
  rcases keyIs_shape h with ⟨i, t, rfl, rfl⟩ | ⟨x, t, rfl, rfl⟩ <;> exact ⟨fun n => by cases n <;> rfl, fun n => ⟨_, by cases n <;> rfl⟩⟩
theorem mute_all (m : Mute kd) {ks : List κ} {vs : List Value} (h : ItemsAre kd ks vs) : ∀ v ∈ vs, (∀ n, ofAClassStatement n v = pure false) ∧ ∀ n, ∃ b, hashByValue n v = pure b := by
  induction h with
  | nil => exact fun v hv => nomatch hv
  | cons h1 _ ih => exact fun v hv => (List.mem_cons.mp hv).elim (fun e => e ▸ m _ _ h1) (ih v)
section
variable {A : Around} {E : Value → Shared → Prop} {s : Shared}
theorem mute_class (m : Mute kd) {ks : List κ} {b : Addr} {Q : Bool → Shared → Prop} (hk : IsTupleKey kd s.heap ks b) (h : Q false s) : wpAny (model P w) A (ofAClassStatement 8 (.ref b)) Q E s := by
  have ty := hk.typeIs
  obtain ⟨o, its, n, e1, _, e2, hi⟩ := hk
  unfold ofAClassStatement
  refine wpAny_bind (wpAny_typeOf ty ?_)
  dsimp only
  have eq : (("tuple" : String) == "tuple") = true := by decide
  simp only [eq, Bool.not_true, Bool.false_eq_true, if_false]
  try refine wpAny_bind (wpAny_pure ?_)
  show wpAny _ _ (seqItems? (.ref b) >>= _) _ _ s
  refine wpAny_bind (wpAny_seqItems e1 e2 ?_)
  dsimp only
  refine wpAny_bind ?_
  show wpAny _ _ (forIn its _ _) _ _ s
  rw [← Array.forIn_toList]
  refine wpAny_forIn_list _ (fun r z s1 => z.1 = none ∧ s1 = s ∧ ∀ v ∈ r, ∀ n, ofAClassStatement n v = pure false) _ (fun v r z s1 hz => ?_) (fun z s1 hz => ?_) _ _ ⟨rfl, rfl, fun v hv => (mute_all m hi v hv).1⟩
  · obtain ⟨_, rfl, q⟩ := hz
    rw [q v List.mem_cons_self]
    refine wpAny_bind (wpAny_pure ?_)
    rw [if_neg Bool.false_ne_true]
    exact wpAny_pure ⟨rfl, rfl, fun u hu => q u (List.mem_cons_of_mem _ hu)⟩
  · obtain ⟨z1, z2⟩ := z
    obtain ⟨q, rfl, _⟩ := hz
    obtain rfl : z1 = none := q
    exact wpAny_pure h
theorem mute_hash (m : Mute kd) {ks : List κ} {b : Addr} {Q : Bool → Shared → Prop} (hk : IsTupleKey kd s.heap ks b) (h : ∀ y, Q y s) : wpAny (model P w) A (hashByValue 8 (.ref b)) Q E s := by
  have ty := hk.typeIs
  obtain ⟨o, its, n, e1, _, e2, hi⟩ := hk
  unfold hashByValue
  refine wpAny_bind (wpAny_specialOf ty F.slot_tuple_hash.lookup ?_)
  show wpAny _ _ (seqItems? (.ref b) >>= _) _ _ s
  refine wpAny_bind (wpAny_seqItems e1 e2 (wpAny_bind ?_))
  show wpAny _ _ (forIn its _ _) _ _ s
  rw [← Array.forIn_toList]
  refine wpAny_forIn_list _ (fun r z s1 => s1 = s ∧ ∀ v ∈ r, ∀ n, ∃ b, hashByValue n v = pure b) _ (fun v r z s1 hz => ?_) (fun z s1 hz => ?_) _ _ ⟨rfl, fun v hv => (mute_all m hi v hv).2⟩
  · obtain ⟨rfl, q⟩ := hz
    obtain ⟨y, ey⟩ := q v List.mem_cons_self 7
    rw [ey]
    refine wpAny_bind (wpAny_pure ?_)
    cases y
    · exact wpAny_pure (wpAny_pure (h _))
    · exact wpAny_pure ⟨rfl, fun u hu => q u (List.mem_cons_of_mem _ hu)⟩
  · obtain ⟨rfl, _⟩ := hz
    obtain ⟨z1, z2⟩ := z
    cases z1
    · exact wpAny_pure (h _)
    · exact wpAny_pure (h _)
/-- a search among such tuples shows nothing -/
theorem mute_seen (m : Mute kd) {ks : List κ} {b : Addr} {Q : Bool → Shared → Prop} (hk : IsTupleKey kd s.heap ks b) {ys : List Value} (hy : ∀ y ∈ ys, ∃ js c, y = Value.ref c ∧ IsTupleKey kd s.heap js c) (h : Q false s) :
    wpAny (model P w) A (searchCouldBeSeen (.ref b) ys) Q E s := by
  unfold searchCouldBeSeen
  refine wpAny_bind (wpAny_forIn_list _ (fun r z s1 => z.1 = none ∧ s1 = s ∧ ∀ y ∈ r, ∃ js c, y = Value.ref c ∧ IsTupleKey kd s.heap js c) _ (fun v r z s1 hz => ?_) (fun z s1 hz => ?_) _ _ ⟨rfl, rfl, hy⟩)
  · obtain ⟨_, rfl, q⟩ := hz
    obtain ⟨js, c, rfl, hc⟩ := q v List.mem_cons_self
    have q2 : ∀ y ∈ r, ∃ js c, y = Value.ref c ∧ IsTupleKey kd s1.heap js c := fun u hu => q u (List.mem_cons_of_mem _ hu)
    dsimp only
    by_cases e : (b == c || (carriedByValue (.ref b) && carriedByValue (.ref c))) = true
    · exact wp_if_pos e (wpAny_pure ⟨rfl, rfl, q2⟩)
    · refine wp_if_neg e (wpAny_bind (wpAny_eqIsQuiet_tuple hk ?_))
      simp only [Bool.not_true, Bool.false_eq_true, if_false]
      refine wpAny_bind (wpAny_eqIsQuiet_tuple hc ?_)
      simp only [Bool.not_true, Bool.false_eq_true, if_false]
      refine wpAny_bind (mute_class m hk ?_)
      rw [if_neg Bool.false_ne_true]
      refine wpAny_bind (mute_class m hc ?_)
      rw [if_neg Bool.false_ne_true]
      exact wpAny_pure ⟨rfl, rfl, q2⟩
  · obtain ⟨z1, z2⟩ := z
    obtain ⟨q, rfl, _⟩ := hz
    obtain rfl : z1 = none := q
    exact wpAny_pure h
end
abbrev hashT (kd : KeyKind P w κ) (p : Addr × List κ) : Int := tupleKeyHash kd p.2
def rowT (kd : KeyKind P w κ) (p : Addr × List κ) : Int × Value := (hashT kd p, .ref p.1)
/-- a set of tuples: each by its place and its parts -/
structure TSet (kd : KeyKind P w κ) (h : Heap) (a : Addr) (L : List (Addr × List κ)) (es : Array (Int × Value)) (ep : Nat) (t : SetTable) : Prop where
  ob : ∃ o, h.get? a = some o ∧ o.ExactSet ∧ o.data = .set es ep t
  ent : es.toList = L.map (rowT kd)
  tab : TabOk t (L.map (hashT kd))
  once : (L.map (·.2)).Nodup
  tup : ∀ p ∈ L, IsTupleKey kd h p.2 p.1
  led : w.params.followText "set-order" = true ∨ t.led = true
  room : L.length * 5 < t.mask * 3
  few : L.length < 64
section
variable {A : Around} {E : Value → Shared → Prop} {s : Shared} {a : Addr} {L : List (Addr × List κ)} {es : Array (Int × Value)} {ep : Nat} {t : SetTable}
theorem ent_size (e : es.toList = L.map (rowT kd)) : es.size = L.length := by
  rw [← Array.length_toList, e, List.length_map]
theorem ent_at (e : es.toList = L.map (rowT kd)) {i : Nat} {p : Addr × List κ} (h : L[i]? = some p) : es[i]? = some (rowT kd p) := by
  rw [← Array.getElem?_toList, e, List.getElem?_map, h]
  rfl
theorem tab_fits {t : SetTable} {hs : List Int} {n : Nat} (T : t.dummies = #[]) (h1 : t.place.size = n) (h2 : n ≤ t.mask) : t.fits n = true := by
  unfold SetTable.fits SetTable.fill
  rw [T, h1]
  simp only [beq_self_eq_true, Bool.true_and, decide_eq_true_eq]
  exact h2
theorem TSet.fits (R : TSet kd s.heap a L es ep t) : t.fits es.size = true := by
  have z1 := R.tab.sz
  have z2 := R.room
  rw [List.length_map] at z1
  rw [ent_size R.ent]
  exact tab_fits (hs := []) R.tab.dm z1 (by omega)
theorem TSet.place (R : TSet kd s.heap a L es ep t) : t.place.toList.length = L.length := by
  have z := R.tab.sz
  rw [List.length_map] at z
  rw [Array.length_toList, z]
/-- the c-th look of a search -/
abbrev lookT (m : Nat) (h : Int) (c : Nat) : SetTable.Probe := nth m (runAt m (SetTable.bits h % (m + 1)) (SetTable.bits h)) c
theorem lookT_add (m : Nat) (h : Int) (c q : Nat) : nth m (lookT m h c) q = lookT m h (c + q) := (nth_add m c _ q).symm
theorem lookT_bare (m : Nat) (h : Int) : ∀ c, (lookT m h c).dummy = none := by
  have z : ∀ (n : Nat) (p : SetTable.Probe), p.dummy = none → (nth m p n).dummy = none := fun n => by
    induction n with
    | zero => exact fun _ q => q
    | succ n ih =>
      refine fun p q => ih (adv m p) ?_
      unfold adv
      split <;> exact q
  exact fun c => z c _ rfl
/-- a search from its c-th look on -/
theorem tset_seek (mu : Mute kd) (R : TSet kd s.heap a L es ep t) {x : Addr} {k : List κ} (hx : IsTupleKey kd s.heap k x) (hu : A.units < cLine) {N : Nat} (lt : N < 10 * SetTable.turns t.mask)
    (free : way t.mask (hashT kd (x, k)) N ∉ t.place.toList) (held : ∀ c, c < N → way t.mask (hashT kd (x, k)) c ∈ t.place.toList) {Q : SetFound → Shared → Prop}
    (yes : k ∈ L.map (·.2) → Q (.there none) s) (no : k ∉ L.map (·.2) → Q (.free (way t.mask (hashT kd (x, k)) N) false) s) :
    ∀ (f c : Nat) (z : Option SetTable.Probe), z.getD (t.probeStart (hashT kd (x, k))) = lookT t.mask (hashT kd (x, k)) c → c ≤ N → N - c < f →
      (∀ (i : Nat) p, L[i]? = some p → p.2 = k → ∃ d, c ≤ d ∧ d < N ∧ t.place.toList[i]? = some (way t.mask (hashT kd (x, k)) d)) →
      wpAny (model P w) A (setSearchFrom a (.ref x) (hashT kd (x, k)) true f z) Q E s := by
  intro f
  induction f with
  | zero => exact fun c _ _ _ h => absurd h (Nat.not_lt_zero _)
  | succ f ih =>
    intro c z ez cN fu later
    obtain ⟨o, h1, _, h2⟩ := R.ob
    obtain ⟨hh, eh⟩ : ∃ hh, hashT kd (x, k) = hh := ⟨_, rfl⟩
    rw [eh] at ez free held no later ih ⊢
    rw [setSearchFrom_succ]
    refine wpAny_bind (wpAny_setState_of h1 h2 R.fits ?_)
    dsimp only
    have gw : ¬ t.gaveWay = true := by
      unfold SetTable.gaveWay
      rw [mask_odd R.tab.mok]
      decide
    refine wp_if_neg gw ?_
    try refine wpAny_bind (wpAny_pure ?_)
    have ej : ∀ q, (nth t.mask (lookT t.mask hh c) q).j = way t.mask hh (c + q) := fun q => congrArg SetTable.Probe.j (lookT_add ..)
    have hashOf : ∀ (i : Nat) p, L[i]? = some p → (es[i]?.map (·.1)).getD 0 = hashT kd p := fun i p e => by rw [ent_at R.ent e]; rfl
    rcases go_spec t R.tab.ris R.tab.dm (fun i => (es[i]?.map (·.1)).getD 0) hh (10 * SetTable.turns t.mask) (N - c) _ (lookT_bare _ _ c) (by omega) (fun q hq => by rw [ej]; exact held _ (by omega)) (by rw [ej, show c + (N - c) = N by omega]; exact free) with ⟨q, i, hq, hi, _, none_, pr⟩ | ⟨none_, pr⟩
    · rw [ej] at hi
      have pr2 : t.probe (fun i => (es[i]?.map (·.1)).getD 0) hh (z.getD (t.probeStart hh)) = some (.candidate (way t.mask hh (c + q)) i (lookT t.mask hh (c + (q + 1)))) := by
        rw [ez, ← ej, ← lookT_add]
        exact pr
      rw [pr2]
      dsimp only
      have il : i < L.length := by rw [← R.place]; exact (List.getElem?_eq_some_iff.mp hi).1
      obtain ⟨p, hp⟩ : ∃ p, L[i]? = some p := ⟨_, List.getElem?_eq_getElem il⟩
      have mp := List.mem_of_getElem? hp
      have live : t.slot (way t.mask hh (c + q)) = .live i := slot_live R.tab.ris hi
      have go : wpAny (model P w) A (searchRest a (.ref x) hh true f es t (way t.mask hh (c + q)) i (lookT t.mask hh (c + (q + 1)))) Q E s := by
        unfold searchRest
        rw [ent_at R.ent hp]
        dsimp only [rowT]
        refine wpAny_bind (wpAny_holding (wpAny_eqBool_tuple hu (R.tup p mp) hx ?_))
        refine wpAny_bind (wpAny_setState_of h1 h2 R.fits ?_)
        dsimp only
        by_cases same : p.2 = k
        · exact wp_if_pos (by simp [same]) (wpAny_pure (yes (List.mem_map.mpr ⟨p, mp, same⟩)))
        · refine wp_if_neg (by simp [same]) ?_
          try refine wpAny_bind (wpAny_pure ?_)
          rw [sameMem]
          dsimp only
          simp only [if_true, live, ent_at R.ent hp, rowT]
          refine wpAny_bind (wpAny_isSame_ref_self (wpAny_bind (wpAny_pure ?_)))
          simp only [if_true]
          refine wp_if_neg (by simp [same]) (ih (c + (q + 1)) _ rfl (by omega) (by omega) fun i0 p0 e0 k0 => ?_)
          obtain ⟨d, d1, d2, d3⟩ := later i0 p0 e0 k0
          have eq : hashT kd p0 = hh := by rw [← eh]; exact congrArg (tupleKeyHash kd) k0
          refine ⟨d, ?_, d2, d3⟩
          have n1 : ¬ d < c + q := fun y => none_ (d - c) i0 (by omega) (by rw [ej, show c + (d - c) = d by omega]; exact d3) ((hashOf i0 p0 e0).trans eq)
          have n2 : d ≠ c + q := fun y => by
            rw [y] at d3
            have l2 := slot_live R.tab.ris d3
            rw [live] at l2
            injection l2 with l2
            rw [← l2, hp] at e0
            cases e0
            exact same k0
          omega
      by_cases hl : t.led = true
      · refine wp_if_neg (by simp [hl]) ?_
        try refine wpAny_bind (wpAny_pure ?_)
        exact go
      · refine wp_if_pos (by simp [hl]) (wpAny_bind (mute_seen mu hx (fun y hy => ?_) ?_))
        · obtain ⟨e, m1, rfl⟩ := List.mem_map.mp hy
          have m2 : e ∈ es.toList := by
            have := Array.mem_toList_iff.mp m1
            simp only [Array.mem_filter] at this
            exact Array.mem_toList_iff.mpr this.1
          rw [R.ent] at m2
          obtain ⟨r, m3, rfl⟩ := List.mem_map.mp m2
          exact ⟨r.2, r.1, rfl, R.tup r m3⟩
        · refine wp_if_neg (by decide) ?_
          try refine wpAny_bind (wpAny_pure ?_)
          exact go
    · have pr2 : t.probe (fun i => (es[i]?.map (·.1)).getD 0) hh (z.getD (t.probeStart hh)) = some (.empty (way t.mask hh N) none) := by
        have e2 := ej (N - c)
        rw [show c + (N - c) = N by omega] at e2
        rw [ez, ← e2]
        exact pr
      rw [pr2]
      dsimp only
      refine wpAny_pure (no fun hm => ?_)
      obtain ⟨p0, m0, k0⟩ := List.mem_map.mp hm
      obtain ⟨i0, e0⟩ := List.mem_iff_getElem?.mp m0
      obtain ⟨d, d1, d2, d3⟩ := later i0 p0 e0 k0
      exact none_ (d - c) i0 (by omega) (by rw [ej, show c + (d - c) = d by omega]; exact d3) ((hashOf i0 p0 e0).trans (by rw [← eh]; exact congrArg (tupleKeyHash kd) k0))
theorem tset_search (mu : Mute kd) (R : TSet kd s.heap a L es ep t) {x : Addr} {k : List κ} (hx : IsTupleKey kd s.heap k x) (hu : A.units < cLine) {Q : SetFound → Shared → Prop} (yes : k ∈ L.map (·.2) → Q (.there none) s)
    (no : ∀ N, k ∉ L.map (·.2) → way t.mask (hashT kd (x, k)) N ∉ t.place.toList → (∀ c, c < N → way t.mask (hashT kd (x, k)) c ∈ t.place.toList) → Q (.free (way t.mask (hashT kd (x, k)) N) false) s) :
    wpAny (model P w) A (setSearch a (.ref x) (hashT kd (x, k)) true) Q E s := by
  have z := R.room
  obtain ⟨N, n1, n2, n3⟩ := R.tab.first (by rw [List.length_map]; omega) (hashT kd (x, k))
  have small : N < 100000 := by
    unfold SetTable.turns at n1
    rcases R.tab.mok with e | e | e <;> omega
  unfold setSearch
  refine tset_seek mu R hx hu n1 n2 n3 yes (fun q => no N q n2 n3) 100000 0 none rfl (Nat.zero_le _) (by omega) fun i p hp hk => ?_
  have il : i < t.place.toList.length := by rw [R.place]; exact (List.getElem?_eq_some_iff.mp hp).1
  obtain ⟨d, d1, d2⟩ := R.tab.before (h := hashT kd (x, k)) n2 (i := i) (by rw [List.getElem?_map, hp, ← hk]; rfl) (List.getElem?_eq_getElem il)
  exact ⟨d, Nat.zero_le _, d1, by rw [List.getElem?_eq_getElem il, d2]⟩
theorem all_gets {α : Type} (l : List α) : (List.range l.length).filterMap (fun i => l[i]?) = l := by
  have z : ∀ n, n ≤ l.length → (List.range n).filterMap (fun i => l[i]?) = l.take n := fun n => by
    induction n with
    | zero => exact fun _ => rfl
    | succ n ih =>
      intro h
      rw [List.range_succ, List.filterMap_append, ih (by omega), List.take_succ, List.getElem?_eq_getElem h]
      simp [List.getElem?_eq_getElem h]
  rw [z _ (Nat.le_refl _), List.take_length]
theorem picked {es : Array (Int × Value)} (e : es.toList = L.map (rowT kd)) : ∀ l : List Nat, (∀ i ∈ l, i < L.length) →
    l.filterMap (fun i => es[i]?) = (l.filterMap fun i => L[i]?).map (rowT kd) ∧ (l.filterMap fun i => L[i]?).map (hashT kd) = l.map fun i => (es.map (·.1)).getD i 0
  | [], _ => ⟨rfl, rfl⟩
  | i :: l, h => by
    obtain ⟨q1, q2⟩ := picked e l fun j hj => h j (List.mem_cons_of_mem _ hj)
    have li := List.getElem?_eq_getElem (h i List.mem_cons_self)
    have ei := ent_at e li
    have hi : (es.map (·.1)).getD i 0 = hashT kd (L[i]'(h i List.mem_cons_self)) := by
      rw [Array.getD_eq_getD_getElem?, Array.getElem?_map, ei]
      rfl
    rw [List.filterMap_cons_some ei, List.filterMap_cons_some li, List.map_cons, List.map_cons, List.map_cons, q1, q2, hi]
    exact ⟨rfl, rfl⟩
theorem tup_but {h h' : Heap} {k : List κ} {a b : Addr} {o : Obj} {es : Array (Int × Value)} {ep : Nat} {t : SetTable} (x : IsTupleKey kd h k b) (e1 : h.get? a = some o) (e2 : o.data = .set es ep t) (sb : Heap.SameBut a h h') : IsTupleKey kd h' k b := by
  obtain ⟨o2, its, n, e3, c, e4, i⟩ := x
  refine ⟨o2, its, n, (sb.2 b fun z => ?_).trans e3, c, e4, i⟩
  rw [z, e1] at e3
  cases e3
  rw [e2] at e4
  cases e4
theorem tset_relay {o : Obj} (h1 : s.heap.get? a = some o) (hx : o.ExactSet) (h2 : o.data = .set es ep t) (ent : es.toList = L.map (rowT kd)) (sz : t.place.size = L.length) (dm : t.dummies = #[]) (fl : L.length ≤ t.mask)
    (once : (L.map (·.2)).Nodup) (tup : ∀ p ∈ L, IsTupleKey kd s.heap p.2 p.1) (led : w.params.followText "set-order" = true ∨ t.led = true) (few : L.length < 64) {n M : Nat}
    (hn : SetTable.sizeAbove n - 1 = M) (hM : MaskOk M) (h128 : SetTable.sizeAbove n ≤ 128) (room : L.length * 5 < M * 3) {Q : Unit → Shared → Prop}
    (hQ : ∀ h' L' es' ep' t', Heap.SameBut a s.heap h' → TSet kd h' a L' es' ep' t' → L'.Perm L → Q () { s with heap := h' }) : wpAny (model P w) A (setRelay a n) Q E s := by
  have es_n := ent_size ent
  obtain ⟨t2, ord, eT, pm, T, em, el, _, _⟩ := relaid_ok t (hs := es.map (·.1)) (wanted := n) hn hM (by rw [Array.size_map, es_n]; omega)
  rw [Array.size_map, es_n] at pm
  obtain ⟨q1, q2⟩ := picked ent ord.toList fun i hi => List.mem_range.mp (pm.mem_iff.mp hi)
  obtain ⟨L2, eL⟩ : ∃ L2, ord.toList.filterMap (fun i => L[i]?) = L2 := ⟨_, rfl⟩
  rw [eL] at q1 q2
  rw [← q2] at T
  have p2 : L2.Perm L := by
    have z : (ord.toList.filterMap fun i => L[i]?).Perm ((List.range L.length).filterMap fun i => L[i]?) := pm.filterMap _
    rw [eL, all_gets] at z
    exact z
  obtain ⟨es2, eE⟩ : ∃ es2, ord.filterMap (es[·]?) = es2 := ⟨_, rfl⟩
  have q3 : es2.toList = L2.map (rowT kd) := by rw [← eE, ← q1]; simp
  have n2 : es2.size = es.size := by rw [ent_size q3, p2.length_eq, es_n]
  rw [setRelay_eq]
  refine wpAny_bind (wpAny_setState_of h1 h2 (by rw [es_n]; exact tab_fits (hs := []) dm sz fl) ?_)
  dsimp only
  refine wp_if_neg (by rw [sizeLine_eq]; omega) ?_
  try refine wpAny_bind (wpAny_pure ?_)
  rw [eT]
  dsimp only
  rw [eE]
  refine wpAny_bind (wp_if_neg (by rw [n2]; simp) ?_)
  try refine wpAny_bind (wpAny_pure ?_)
  refine wpAny_pure ?_
  dsimp only
  have sb : Heap.SameBut a s.heap (s.heap.update a (Obj.putSet es2 t2)) := Heap.SameBut.update ..
  refine wpAny_storeSet_of h1 h2 (hQ _ L2 es2 (ep + 1) t2 sb ?_ p2) (by rw [n2, es_n, sizeLine_eq]; omega)
  exact { ob := ⟨_, store_at h1 h2, ⟨hx.1, hx.2.1, hx.2.2⟩, rfl⟩, ent := q3, tab := T, once := (p2.map _).nodup_iff.mpr once, tup := fun p hp => tup_but (tup p (p2.mem_iff.mp hp)) h1 h2 sb, led := by rw [el]; exact led, room := by rw [p2.length_eq, em]; exact room, few := by rw [p2.length_eq]; exact few }
/-- one is put in -/
theorem tset_add (mu : Mute kd) (R : TSet kd s.heap a L es ep t) {x : Addr} {k : List κ} (hx : IsTupleKey kd s.heap k x) (hu : A.units < cLine) (few : L.length + 1 < 64) {Q : Bool → Shared → Prop}
    (hQ : ∀ b h' L' es' ep' t', Heap.SameBut a s.heap h' → TSet kd h' a L' es' ep' t' → (if k ∈ L.map (·.2) then L' = L else L'.Perm ((x, k) :: L)) → Q b { s with heap := h' }) :
    wpAny (model P w) A (setAddHashed a (.ref x) (hashT kd (x, k))) Q E s := by
  obtain ⟨o, h1, ex, h2⟩ := R.ob
  have es_n := ent_size R.ent
  have room := R.room
  unfold setAddHashed
  refine wpAny_holding ?_
  rw [show (100000 : Nat) = 99999 + 1 from rfl, setAddHashedIn_succ]
  refine wpAny_bind (wpAny_setState_of h1 h2 R.fits ?_)
  dsimp only
  refine wp_if_neg (by simp [byScan, Value.scannable]) ?_
  try refine wpAny_bind (wpAny_pure ?_)
  refine wpAny_bind (tset_search mu R hx hu (fun m => ?_) fun N m nf nh => ?_)
  · refine wpAny_pure (hQ false s.heap L es ep t (Heap.SameBut.refl a s.heap) R ?_)
    rw [if_pos m]
  · dsimp only
    refine wpAny_bind (wpAny_setState_of h1 h2 R.fits ?_)
    dsimp only
    obtain ⟨q1, q2, q3, q4, q5, _, _, _, q9⟩ := R.tab.put nf nh
    obtain ⟨T, eT⟩ : ∃ T, t.put (way t.mask (hashT kd (x, k)) N) = T := ⟨_, rfl⟩
    rw [eT] at q1 q3 q4 q5 q9 ⊢
    obtain ⟨t1, j⟩ := T
    dsimp only at q1 q3 q4 q5 q9 ⊢
    rw [← q1] at q2 q3
    clear q1
    obtain ⟨L1, eL⟩ : ∃ L1, L.take j ++ (x, k) :: L.drop j = L1 := ⟨_, rfl⟩
    obtain ⟨es1, eE⟩ : ∃ es1, SetTable.insertAt es j (hashT kd (x, k), Value.ref x) = es1 := ⟨_, rfl⟩
    have pm : L1.Perm ((x, k) :: L) := by
      have z : (L.take j ++ (x, k) :: L.drop j).Perm ((x, k) :: (L.take j ++ L.drop j)) := List.perm_middle
      rw [List.take_append_drop, eL] at z
      exact z
    have n1 : L1.length = L.length + 1 := pm.length_eq
    have ent1 : es1.toList = L1.map (rowT kd) := by
      rw [← eE, ← eL, SetTable.toList_insertAt, R.ent, List.map_append, List.map_cons, List.map_take, List.map_drop]
      rfl
    have q3 : TabOk t1 (L1.map (hashT kd)) := by
      rw [← eL, List.map_append, List.map_cons, List.map_take, List.map_drop]
      exact q3
    have once1 : (L1.map (·.2)).Nodup := (pm.map _).nodup_iff.mpr (List.nodup_cons.mpr ⟨m, R.once⟩)
    have es1_n : es1.size = L.length + 1 := by rw [ent_size ent1, n1]
    -- whatever is said of the text
    have all : ∀ y : Bool, wpAny (model P w) A (do
        storeSet a es1 (if y = true then t1 else { t1 with plain := false })
        if (!false && (if y = true then t1 else { t1 with plain := false }).tooFull) = true then setRelay a (SetTable.grown (es.size + 1))
        return true) Q E s := fun y => by
      obtain ⟨t3, e3⟩ : ∃ t3, (if y = true then t1 else { t1 with plain := false }) = t3 := ⟨_, rfl⟩
      have T3 : TabOk t3 (L1.map (hashT kd)) := by
        rw [← e3]
        cases y
        · exact ⟨q3.ris, q3.dm, q3.sz, q3.mok, q3.bd, q3.reach⟩
        · exact q3
      have m3 : t3.mask = t.mask := by rw [← e3, ← q4]; cases y <;> rfl
      have l3 : t3.led = t.led := by rw [← e3, ← q5]; cases y <;> rfl
      have f3 : t3.fill = L.length + 1 := by
        rw [List.length_map] at q9
        rw [← e3, ← q9]
        cases y <;> rfl
      rw [e3]
      refine wpAny_bind (wpAny_storeSet_of h1 h2 ?_ (by rw [es1_n, sizeLine_eq]; omega))
      have sb : Heap.SameBut a s.heap (s.heap.update a (Obj.putSet es1 t3)) := Heap.SameBut.update ..
      have o1 := store_at (es' := es1) (t' := t3) h1 h2
      obtain ⟨hp, eH⟩ : ∃ hp, s.heap.update a (Obj.putSet es1 t3) = hp := ⟨_, rfl⟩
      rw [eH] at sb o1 ⊢
      have tup1 : ∀ p ∈ L1, IsTupleKey kd hp p.2 p.1 := fun p hm => (List.mem_cons.mp (pm.mem_iff.mp hm)).elim (fun e => by rw [e]; exact tup_but hx h1 h2 sb) fun z => tup_but (R.tup p z) h1 h2 sb
      have led1 : w.params.followText "set-order" = true ∨ t3.led = true := by rw [l3]; exact R.led
      have full : t3.tooFull = decide ((L.length + 1) * 5 ≥ t.mask * 3) := by
        unfold SetTable.tooFull
        rw [f3, m3]
      by_cases c : (L.length + 1) * 5 ≥ t.mask * 3
      · rw [decide_eq_true c] at full
        have go : ∀ M, SetTable.sizeAbove (SetTable.grown (L.length + 1)) - 1 = M → MaskOk M → SetTable.sizeAbove (SetTable.grown (L.length + 1)) ≤ 128 → (L.length + 1) * 5 < M * 3 → L.length + 1 ≤ t.mask →
            wpAny (model P w) A (setRelay a (SetTable.grown (es.size + 1)) >>= fun _ => pure true) Q E { s with heap := hp } := fun M y1 y2 y3 y4 y5 => by
          rw [es_n]
          have sz := T3.sz
          rw [List.length_map] at sz
          refine wpAny_bind (tset_relay (s := { s with heap := hp }) o1 ⟨ex.1, ex.2.1, ex.2.2⟩ rfl ent1 sz T3.dm (by rw [n1, m3]; exact y5) once1 tup1 led1 (by rw [n1]; exact few) y1 y2 y3 (by rw [n1]; exact y4) ?_)
          intro h4 L4 es4 ep4 t4 sb4 R4 p4
          refine wpAny_pure (hQ true h4 L4 es4 ep4 t4 (sb.trans sb4) R4 ?_)
          rw [if_neg m]
          exact p4.trans pm
        have two : (t.mask = 7 ∧ L.length = 4) ∨ (t.mask = 31 ∧ L.length = 18) := by
          rcases R.tab.mok with e | e | e <;> rw [e] at c room <;> omega
        refine wp_if_pos (by simp [full]) ?_
        rcases two with ⟨e1, e2⟩ | ⟨e1, e2⟩
        · exact go 31 (by rw [e2, size_20]) (.inr (.inl rfl)) (by rw [e2, size_20]; decide) (by omega) (by omega)
        · exact go 127 (by rw [e2, size_76]) (.inr (.inr rfl)) (by rw [e2, size_76]; decide) (by omega) (by omega)
      · rw [decide_eq_false c] at full
        refine wp_if_neg (by simp [full]) (wpAny_pure (hQ true hp L1 es1 (ep + 1) t3 sb ?_ ?_))
        · exact { ob := ⟨_, o1, ⟨ex.1, ex.2.1, ex.2.2⟩, rfl⟩, ent := ent1, tab := T3, once := once1, tup := tup1, led := led1, room := by rw [n1, m3]; omega, few := by rw [n1]; exact few }
        · rw [if_neg m]
          exact pm
    rw [eE]
    by_cases pl : t1.plain = true
    · exact wp_if_pos pl (wpAny_bind (mute_hash mu hx all))
    · exact wp_if_neg pl (wpAny_bind (wpAny_pure (all true)))
end
/-- each once -/
def d1 {α : Type} [DecidableEq α] (acc : List α) (k : α) : List α := if k ∈ acc then acc else k :: acc
def dg {α : Type} [DecidableEq α] : List α → List α → List α
  | acc, [] => acc
  | acc, k :: r => dg (d1 acc k) r
theorem d1_in {α : Type} [DecidableEq α] {acc : List α} {k : α} (h : k ∈ acc) : d1 acc k = acc := if_pos h
theorem d1_out {α : Type} [DecidableEq α] {acc : List α} {k : α} (h : k ∉ acc) : d1 acc k = k :: acc := if_neg h
theorem d1_len {α : Type} [DecidableEq α] (acc : List α) (k : α) : (d1 acc k).length ≤ acc.length + 1 := by
  unfold d1
  split <;> simp
theorem dg_len {α : Type} [DecidableEq α] : ∀ (r acc : List α), (dg acc r).length ≤ acc.length + r.length
  | [], acc => by simp [dg]
  | x :: r, acc => by
    rw [dg]
    have := dg_len r (d1 acc x)
    have := d1_len acc x
    simp only [List.length_cons]
    omega
/-- the length is whole just where nothing stands twice -/
theorem dg_full {α : Type} [DecidableEq α] : ∀ (r acc : List α), acc.Nodup → ((dg acc r).length = acc.length + r.length ↔ (acc.reverse ++ r).Nodup)
  | [], acc, h => by simp [dg]; exact List.pairwise_reverse.mpr (h.imp fun z => z.symm)
  | x :: r, acc, h => by
    rw [dg]
    by_cases c : x ∈ acc
    · rw [d1_in c]
      have := dg_len r acc
      refine ⟨fun z => ?_, fun z => ?_⟩
      · rw [List.length_cons] at z
        omega
      · have := List.nodup_append.mp z
        exact absurd rfl (this.2.2 x (by simpa using c) x (by simp))
    · rw [d1_out c]
      have := dg_full r (x :: acc) (List.nodup_cons.mpr ⟨c, h⟩)
      rw [List.reverse_cons, List.append_assoc, List.singleton_append] at this
      rw [← this, List.length_cons, List.length_cons]
      omega
section
variable {A : Around} {E : Value → Shared → Prop} {s : Shared}
theorem tup_kept {h h' : Heap} {k : List κ} {b : Addr} (x : IsTupleKey kd h k b) (e : ∀ o, h.get? b = some o → h'.get? b = some o) : IsTupleKey kd h' k b := by
  obtain ⟨o, its, n, e1, r⟩ := x
  exact ⟨o, its, n, e o e1, r⟩
theorem tset_kept {h h' : Heap} {a : Addr} {L : List (Addr × List κ)} {es : Array (Int × Value)} {ep : Nat} {t : SetTable} (R : TSet kd h a L es ep t) (e : ∀ o, h.get? a = some o → h'.get? a = some o) (ht : ∀ p ∈ L, IsTupleKey kd h' p.2 p.1) : TSet kd h' a L es ep t := by
  obtain ⟨o, e1, r⟩ := R.ob
  exact { ob := ⟨o, e o e1, r⟩, ent := R.ent, tab := R.tab, once := R.once, tup := ht, led := R.led, room := R.room, few := R.few }
/-- the set at a has just these, each once -/
def HasT (kd : KeyKind P w κ) (h : Heap) (a : Addr) (ks : List (Addr × List κ)) (ys : List (List κ)) : Prop := ∃ L es ep t, TSet kd h a L es ep t ∧ (L.map (·.2)).Perm ys ∧ ∀ p ∈ L, p ∈ ks
theorem set_tups (mu : Mute kd) {I : Addr} {fp wr : List Addr} {G : Array GenState → Array GenState → Prop} {n : Nat} {Pv : Nat → Value → Prop} {St : Nat → Shared → Prop} {R : Result → Shared → Prop}
    (W : WalksS P w A.in1 I fp wr G n Pv St) (D : Addr) (hD : D ∉ fp) (ks : List (Addr × List κ)) (hn : n = ks.length) (hb : ks.length < 64) (hv : ∀ i v, Pv i v → ∃ p, ks[i]? = some p ∧ v = .ref p.1) (ap : ∀ p ∈ ks, p.1 ∉ D :: wr) (hu : A.in1.units < cLine) :
    ∀ (m i : Nat) (acc : List (List κ)) (s : Shared), n - i = m → i ≤ n → acc.length ≤ i → St i s → (∀ p ∈ ks, IsTupleKey kd s.heap p.2 p.1) → HasT kd s.heap D ks acc →
      (∀ s', Moved (D :: wr) G s s' → HasT kd s'.heap D ks (dg acc ((ks.drop i).map (·.2))) → R (.ok (.ret .none)) s') →
      codeAny (model P w) A (.builtin "set.update.loop" ⟨[.ref D, .ref I], []⟩) R s := by
  have hw : D ∉ wr := fun z => hD (W.sub _ z)
  have sub : ∀ b ∈ wr, b ∈ D :: wr := fun b hb => List.mem_cons_of_mem _ hb
  have go : ∀ {s s' : Shared} {ys}, Moved wr G s s' → (∀ p ∈ ks, IsTupleKey kd s.heap p.2 p.1) → HasT kd s.heap D ks ys → (∀ p ∈ ks, IsTupleKey kd s'.heap p.2 p.1) ∧ HasT kd s'.heap D ks ys := fun {s s' ys} mv hk ⟨L, es, ep, t, h1, h2, h3⟩ => by
    have q : ∀ p ∈ ks, IsTupleKey kd s'.heap p.2 p.1 := fun p hp => tup_kept (hk p hp) fun o e => mv.heap _ o (fun z => ap p hp (sub _ z)) e
    exact ⟨q, L, es, ep, t, tset_kept h1 (fun o e => mv.heap D o hw e) fun p hp => q p (h3 p hp), h2, h3⟩
  intro m
  induction m with
  | zero =>
    intro i acc s hm hi _ hst hk hS hR
    obtain rfl : i = n := by omega
    refine codeAny_builtin F.entry_set_update_loop ?_
    rw [(Around.under_plainId F.plain_set_update_loop _)]
    show wpAny _ A.in1 ((pyNext (.ref I)) >>= _) _ _ s
    refine wpAny_bind (W.done s _ _ hst fun s' mv => ?_)
    show wpAny _ A.in1 (ret .none) _ _ s'
    rw [hn, List.drop_length] at hR
    exact wpAny_pure (hR s' (mv.mono sub) (go mv hk hS).2)
  | succ m ih =>
    intro i acc s hm hi ha hst hk hS hR
    have lt : i < n := by omega
    refine codeAny_builtin F.entry_set_update_loop ?_
    rw [(Around.under_plainId F.plain_set_update_loop _)]
    show wpAny _ A.in1 ((pyNext (.ref I)) >>= _) _ _ s
    refine wpAny_bind (W.item i s _ _ lt hst fun v s' hP st2 mv => ?_)
    obtain ⟨z, hz, rfl⟩ := hv i v hP
    obtain ⟨hk', L, es, ep, t, y1, y2, y3⟩ := go mv hk hS
    have hx := hk' z (List.mem_of_getElem? hz)
    show wpAny _ A.in1 (holding [Value.ref z.1] (setAdd D (.ref z.1)) >>= _) _ _ s'
    refine wpAny_bind (wpAny_holding ?_)
    (unfold setAdd; refine wpAny_holding ?_)
    refine wpAny_bind (wpAny_pyHash_tuple hu hx ?_)
    have len : L.length = acc.length := by rw [← y2.length_eq, List.length_map]
    refine tset_add (s := { s' with toks := s'.toks + (z.2.length + 1) }) mu y1 hx hu (by omega) fun b h' L' es' ep' t' sb R2 c => ?_
    have hdr : (ks.drop i).map (·.2) = z.2 :: (ks.drop (i + 1)).map (·.2) := by
      obtain ⟨q1, q2⟩ := List.getElem?_eq_some_iff.mp hz
      rw [List.drop_eq_getElem_cons q1, q2, List.map_cons]
    rw [hdr, dg] at hR
    have ha2 : (d1 acc z.2).length ≤ i + 1 := by
      have := d1_len acc z.2
      omega
    have hk2 : ∀ p ∈ ks, IsTupleKey kd h' p.2 p.1 := fun p hp => tup_kept (hk' p hp) fun o e => (sb.2 p.1 fun q => ap p hp (by rw [q]; exact List.mem_cons_self)).trans e
    have mem : z.2 ∈ L.map (·.2) ↔ z.2 ∈ acc := y2.mem_iff
    have hS2 : HasT kd h' D ks (d1 acc z.2) := by
      refine ⟨L', es', ep', t', R2, ?_⟩
      by_cases q : z.2 ∈ acc
      · rw [if_pos (mem.mpr q)] at c
        rw [d1_in q, c]
        exact ⟨y2, y3⟩
      · rw [if_neg fun z => q (mem.mp z)] at c
        rw [d1_out q]
        refine ⟨(c.map _).trans (y2.cons z.2), fun p hp => ?_⟩
        rcases List.mem_cons.mp (c.mem_iff.mp hp) with e | hp
        · rw [e]; exact List.mem_of_getElem? hz
        · exact y3 p hp
    refine wpAny_pure ⟨plainId_quiet F.plain_set_update_loop _, ih (i + 1) _ _ (by omega) lt ha2 (W.frame _ s' _ _ st2 (Nat.le_add_right _ _) fun b hb o e => ?_) hk2 hS2 fun s'' m2 hS3 => ?_⟩
    · rw [sb.2 b (fun z : b = D => hD (by rw [← z]; exact hb))]; exact e
    · refine hR s'' (Moved.trans W.gtrans ((mv.mono sub).then_heap (Nat.le_add_right _ _) fun b o hb e => ?_) m2) hS3
      rw [sb.2 b (fun z : b = D => hb (by rw [z]; exact List.mem_cons_self))]; exact e
theorem led_new : w.params.followText "set-order" = true ∨ (SetTable.fresh 0 0 (!w.params.followText "set-order")).led = true := by
  show _ ∨ (!w.params.followText "set-order") = true
  cases w.params.followText "set-order"
  · exact .inr rfl
  · exact .inl rfl
theorem hasT_new {h : Heap} {a : Addr} {ks : List (Addr × List κ)} (ho : h.get? a = some (nset w)) : HasT kd h a ks [] :=
  ⟨[], #[], 0, .fresh 0 0 (!w.params.followText "set-order"), { ob := ⟨_, ho, ⟨rfl, rfl, rfl⟩, rfl⟩, ent := rfl, tab := ⟨List.Pairwise.nil, rfl, rfl, .inl rfl, (fun x hx => by cases hx), fun i h j hi => by simp at hi⟩, once := List.nodup_nil, tup := (fun p hp => nomatch hp), led := led_new, room := (by show 0 * 5 < 7 * 3; decide), few := (by show 0 < 64; decide) }, List.Perm.nil, fun p hp => nomatch hp⟩
theorem tset_fill (mu : Mute kd) {S l : Addr} {its : List Value} {ks : List (Addr × List κ)} {R : Value → Shared → Prop} (hh : A.handled = none) (hS : s.heap.get? S = some (nset w)) (hl : s.heap.IsList l its.toArray) (hi : its = ks.map fun p => .ref p.1) (hk : ∀ p ∈ ks, IsTupleKey kd s.heap p.2 p.1)
    (hb : ks.length < 64) (hne : l ≠ S) (hu : A.units + 2 < cLine)
    (h : ∀ (h' : Heap) (tk : Nat), HasT kd h' S ks (dg [] (ks.map (·.2))) → (∀ b o, b ≠ S → s.heap.get? b = some o → h'.get? b = some o) → R .none { s with heap := h', toks := tk }) :
    codeAny (model P w) A (.call (.builtin "set.__init__") ⟨[.ref S, .ref l], []⟩) (wants R E) s := by
  have ty : s.TypeIs (.ref S) "set" := ⟨_, hS, rfl⟩
  have ltS : S < s.heap.objs.size := Heap.lt_size hS
  refine codeAny_call_builtin F.called_set.init.plain F.entry_set_init (check_set_init_1 ty ?_)
  obtain ⟨lo, elo, elc, ln, eld⟩ := id hl
  have ltl : l < s.heap.objs.size := Heap.lt_size elo
  obtain ⟨c0, d0, dt0, sl0⟩ := lo
  dsimp only at elc eld
  subst elc eld
  have n1 := F.sub_list_set
  have n2 := F.sub_list_frozenset
  have n3 : (Value.type "list" == Value.type "dict") = false := by decide
  unfold Builtin.«set.__init__» noKeywords Builtin.Frozenset.updateFrom
  generalize eP : pyIter = PI
  wp_walk
  subst eP
  refine wpAny_pyIter_list hl (wpAny_bind (wpAny_runValue ?_))
  have h3 : A.in1.in1.handled = none := by simp [hh]
  have nI : l ≠ s.heap.objs.size := Nat.ne_of_lt ltl
  have nf : S ∉ [s.heap.objs.size, l] := by
    simp only [List.mem_cons, List.not_mem_nil, or_false, not_or]
    exact ⟨Nat.ne_of_lt ltS, Ne.symm hne⟩
  have vals : ∀ (i : Nat) (v : Value), its.toArray[i]? = some v → ∃ p, ks[i]? = some p ∧ v = .ref p.1 := fun i v hv => by
    have hv2 : its[i]? = some v := by simpa using hv
    rw [hi, List.getElem?_map] at hv2
    obtain ⟨p, e1, e2⟩ := Option.map_eq_some_iff.mp hv2
    exact ⟨p, e1, e2.symm⟩
  have ap : ∀ p ∈ ks, p.1 ∉ S :: [s.heap.objs.size] := fun p hp => by
    obtain ⟨o, its2, n, e1, e2, e3, _⟩ := hk p hp
    simp only [List.mem_cons, List.not_mem_nil, or_false, not_or]
    refine ⟨fun z => ?_, Nat.ne_of_lt (Heap.lt_size e1)⟩
    rw [z, hS] at e1
    cases e1
    cases e3
  refine set_tups mu ((Walks.list h3 _ l nI its.toArray).toS) S nf ks (by rw [hi]; simp) hb vals ap (by show A.units + 1 + 1 < cLine; omega) (its.toArray.size - 0) 0 [] _ (by omega) (Nat.zero_le _) (by simp) ⟨⟨_, Heap.get?_push_size _ rfl, rfl, rfl⟩, (hl.push _)⟩ (fun p hp => tup_kept (hk p hp) fun o e => Heap.get?_push_of_some _ e) (hasT_new (Heap.get?_push_of_some _ hS)) ?_
  intro s' hm hR
  obtain ⟨h', g2, d', tk', os'⟩ := s'
  have e1 : g2 = s.gens := hm.gens
  have e2 : d' = s.drawn := hm.drawn
  have e3 : os' = s.os := hm.os
  subst e1 e2 e3
  refine wpAny_pure (wpAny_pure ?_)
  refine h h' tk' hR fun b o nb e => ?_
  exact hm.heap b o (by simp only [List.mem_cons, List.not_mem_nil, or_false, not_or]; exact ⟨nb, Nat.ne_of_lt (Heap.lt_size e)⟩) (Heap.get?_push_of_some _ e)
theorem call_tset (mu : Mute kd) {l : Addr} {its : List Value} {ks : List (Addr × List κ)} {Q : Value → Shared → Prop} (hh : A.handled = none) (hl : s.heap.IsList l its.toArray) (hi : its = ks.map fun p => .ref p.1) (hk : ∀ p ∈ ks, IsTupleKey kd s.heap p.2 p.1) (hb : ks.length < 64) (hu : A.units + 3 < cLine)
    (h : ∀ (h' : Heap) (tk : Nat), HasT kd h' s.heap.objs.size ks (dg [] (ks.map (·.2))) → (∀ b o, s.heap.get? b = some o → h'.get? b = some o) → Q (.ref s.heap.objs.size) { s with heap := h', toks := tk }) :
    wpAny (model P w) A (call (.type "set") [.ref l]) Q E s := by
  have ll : l < s.heap.objs.size := by obtain ⟨_, e, _⟩ := id hl; exact Heap.lt_size e
  obtain ⟨mc, mt, q1⟩ := F.called_set.mro
  have q2 := F.called_set.made
  have q3 := F.called_set.sub
  have q4 := F.called_set.notType
  have q5 := F.called_set.canCreate
  have q6 := F.typeCall_set_1 (.ref l)
  apply wpAny_call
  apply codeAny_of_tree
  show wpAny _ _ (callAny (.type "set") _) _ _ _
  apply wpAny_pure
  refine ⟨Code.quiet_builtin _ (by decide +kernel), codeAny_builtin F.entry_type_call ?_⟩
  rw [show A.under _ = _ from Around.under_plain (weight_type_call_type "set" [.ref l] []) rfl]
  repeat any_goals first | assumption | wp_step
  refine codeAny_mono (code_set_led1 (.ref l) (E := E) (Q₁ := fun o z => o = .ref s.heap.objs.size ∧ z = { s with heap := s.heap.push (nset w) }) ⟨rfl, rfl⟩) fun r z hr => ?_
  match r, hr with
  | .error e, hr => exact hr
  | .ok (.ret o), hr =>
    obtain ⟨rfl, rfl⟩ := hr
    have w1 := F.called_set.init.lookup
    have w2 := F.called_set.init.bind (.ref s.heap.objs.size)
    have w3 : Shared.TypeIs { s with heap := s.heap.push (nset w) } (.ref s.heap.objs.size) "set" := ⟨_, Heap.get?_push_size _ rfl, rfl⟩
    repeat any_goals first | assumption | wp_step
    refine codeAny_mono (tset_fill mu (E := E) (R := fun r z => r = .none ∧ ∃ h' tk, z = { s with heap := h', toks := tk } ∧ HasT kd h' s.heap.objs.size ks (dg [] (ks.map (·.2))) ∧ ∀ b o, s.heap.get? b = some o → h'.get? b = some o) (by simp [hh]) (Heap.get?_push_size _ rfl) (hl.push _) hi (fun p hp => tup_kept (hk p hp) fun o e => Heap.get?_push_of_some _ e) hb (Nat.ne_of_lt ll) (by show A.units + 1 + 2 < cLine; omega) fun h' tk a1 a3 => ⟨rfl, h', tk, rfl, a1, fun b o e => a3 b o (Nat.ne_of_lt (Heap.lt_size e)) (Heap.get?_push_of_some _ e)⟩) fun r2 z2 hz => ?_
    match r2, hz with
    | .error e, hz => exact hz
    | .ok (.ret u), hz =>
      obtain ⟨rfl, h', tk, rfl, a1, a3⟩ := hz
      repeat any_goals first | assumption | wp_step
      exact h _ _ a1 a3
    | .ok .next, hz => exact hz.elim
    | .ok .brk, hz => exact hz.elim
    | .ok .cont, hz => exact hz.elim
  | .ok .next, hr => exact hr.elim
  | .ok .brk, hr => exact hr.elim
  | .ok .cont, hr => exact hr.elim
end
end
section
variable {X : Cx} {T : List (PySem.Addr × PySem.Str)} {Z : Zx T}
def tLenSetT (K : PySem.W.Frag) (ta : TE) : TE := fun σ H Q => ta σ H fun x H1 => ∃ (l : Addr) (ts : List (Addr × List Key)), x = V.ref l ∧ SqL K H1 l (ts.map fun p => V.ref p.1) ∧ (∀ p ∈ ts, SqT K H1 p.1 (p.2.map kV)) ∧ ts.length < 64 ∧ Q (.int ((dg [] (ts.map (·.2))).length : Nat)) H1
theorem pe_lenSetT {a : Expr} {ta : TE} {p p2 q pos : Pos} (hu : X.A.units + 8 < cLine) (hc : X.calm = true) (hg : Gl X "len") (hm : X.mg "len" = none) (hg2 : Gl X "set") (hm2 : X.mg "set" = none) (ha : PE X a ta)
    (na : starEach [a] X.env = (false, eval a X.env) :: starEach [] X.env := by rfl) : PE X (.Call (.Name "len" p) [.Call (.Name "set" p2) [a] [] q] [] pos) (tLenSetT X.K ta) := by
  refine ⟨fun pins s σ H Q I h => ?_⟩
  refine Call_ (ld_blt I hg hm PySem.boot_len (PyProof.Rows.callWith_builtin1 (PyProof.Rows.args_cons ?_ rfl) rfl rfl))
  refine Call_ (ld_blt I hg2 hm2 PyProof.Rows.boot_set (PyProof.Rows.callWith_type1 (PyProof.Rows.args_cons (thn (ha.run pins s σ H _ I h) fun v s1 ⟨x, H1, I1, r1, q1⟩ => PyProof.Rows.args_nil ?_) na) na rfl))
  obtain ⟨l, ts, rfl, hl, ht, few, q1⟩ := q1
  cases r1
  obtain ⟨its, r, pl, hz⟩ := I1.list hl
  refine call_tset (kd := mixKind X.prog X.w) mute_mix (I1.ok.hd hc) pl.isList (refs_of_vals (ks := ts.map fun p => (p.1, ([] : List Int))) (by simpa [List.map_map, Function.comp_def] using r) |>.trans (by simp [List.map_map, Function.comp_def])) (fun p hp => key_sq I1 (ht p hp)) few (by omega) fun h' tk hS hk => ?_
  refine PyProof.Rows.args_nil ?_
  obtain ⟨L, es, ep, t, R, pm, _⟩ := hS
  obtain ⟨o, h1, hx, h2⟩ := R.ob
  have fit := R.fits (s := { s1 with heap := h', toks := tk })
  have n : es.size = (dg [] (ts.map (·.2))).length := by rw [ent_size R.ent, ← pm.length_eq, List.length_map]
  have I2 : Inv X pins σ H1 { s1 with heap := h', toks := tk } := I1.kept fun b o e => hk b o e
  have fw := R.few
  refine call_len_set h1 hx h2 fit (by rw [ent_size R.ent]; omega) ⟨.int ((dg [] (ts.map (·.2))).length : Nat), H1, I2.tok _, ⟨_, by rw [n]⟩, q1⟩
def ktsOf : List PyData → Option (List (List Key))
  | [] => some []
  | d :: r => match ktOf d, ktsOf r with
    | some k, some ks => some (k :: ks)
    | _, _ => none
def lenSetTQ (d : PyData) (K : PyData → Prop) : Prop := match d with
  | .list ds => match ktsOf ds with
    | some ks => ks.length < 64 ∧ K (.int ((dg [] ks).length : Nat))
    | none => False
  | _ => False
theorem kts_rel {K : PySem.W.Frag} {F : Hp} : ∀ {vs : List V} {ds : List PyData} {ks : List (List Key)}, DRs K F vs ds → ktsOf ds = some ks → ∃ ts : List (Addr × List Key), vs = ts.map (fun p => V.ref p.1) ∧ ts.map (·.2) = ks ∧ ∀ p ∈ ts, TqT K F p.1 (p.2.map kV)
  | _, _, _, .nil, h => by cases h; exact ⟨[], rfl, rfl, fun p hp => nomatch hp⟩
  | _, _ :: _, _, .cons a r, h => by
    unfold ktsOf at h
    split at h
    · rename_i k ks e1 e2
      cases h
      obtain ⟨b, rfl, tq⟩ := kt_key e1 a
      obtain ⟨ts, rfl, rfl, h3⟩ := kts_rel r e2
      exact ⟨(b, k) :: ts, rfl, rfl, fun p hp => (List.mem_cons.mp hp).elim (fun e => e ▸ tq) (h3 p)⟩
    · cases h
variable {a : Expr} {wa : DE} {pos p p2 pos2 : Pos}
abbrev dLenSetT (wa : DE) (env : List SD) (P : PyData → List SD → Prop) : Prop := wa env fun d env1 => lenSetTQ d fun x => P x env1
theorem dlenSetT {k0 : Nat} (hr : Room k0 X.A) (hc : X.calm = true) (hm : X.mg "len" = none) (hm2 : X.mg "set" = none) (ha : PE X a (liftE X.K Z wa)) (hg : Gl X "len" := by rfl) (hg2 : Gl X "set" := by rfl)
    (n1 : starEach [a] X.env = (false, eval a X.env) :: starEach [] X.env := by rfl) :
    PE X (.Call (.Name "len" p) [.Call (.Name "set" p2) [a] [] pos2] [] pos) (liftE X.K Z (dLenSetT wa)) :=
  PE.of (pe_lenSetT (by have := hr.u65; omega) hc hg hm hg2 hm2 ha n1) fun σ H Q ⟨g, F, env, P, k, w, q⟩ =>
    ⟨g, F, env, _, k, w, fun d env1 v F1 H1 p e1 k1 r1 => by
      unfold lenSetTQ at p
      split at p
      · rename_i ds
        split at p
        · rename_i ks e
          obtain ⟨l, us, rfl, h1, h2⟩ := r1.inv_lst
          obtain ⟨ts, rfl, e2, h3⟩ := kts_rel h2 e
          have n : ts.length = ks.length := by rw [← e2, List.length_map]
          refine ⟨l, ts, rfl, (h1.mono k1.fh).sq, fun p hp => ((h3 p hp).mono k1.fh).sq, by rw [n]; exact p.1, ?_⟩
          rw [e2]
          exact q _ env1 _ F1 _ p.2 e1 k1 (.int _)
        · exact p.elim
      · exact p.elim⟩
end
end DL

namespace DL
variable {T : List (PySem.Addr × PySem.Str)} {Z : Zx T}
open PySem PySem.Spec PyProof.Rows L2 PySem.W
open Evl (Ex)
section
variable {P : Program} {w : World} {A : Around} {E : Value → Shared → Prop} {s : Shared}
theorem tuple_collect {l : Addr} {vs : List Value} {Q : List Value → Shared → Prop} (hl : s.heap.IsTuple l vs.toArray)
    (h : Q vs { s with heap := (s.heap.push (seqObj "list" #[] 0)).update s.heap.objs.size (Obj.mapSeq (· ++ vs.toArray)) }) (hz : vs.length ≤ sizeLine) :
    wpAny (model P w) A (collect (.ref l)) Q E s := by
  obtain ⟨o, e1, e2, n, e3⟩ := hl
  have e4 : (s.heap.push (seqObj "list" #[] 0)).get? l = some o := Heap.get?_push_of_some _ e1
  have e5 : (s.heap.push (seqObj "list" #[] 0)).get? s.heap.objs.size = some (seqObj "list" #[] 0) := Heap.get?_push_size _ rfl
  unfold collect
  refine wpAny_bind (wpAny_runValue (codeAny_builtin entry_proto_collect' ?_))
  show wpAny _ _ (do PySem.again (.builtin "list.__iadd__" ⟨[← newList [], .ref l], []⟩)) _ _ s
  refine wpAny_bind (wpAny_newList (wpAny_pure ⟨Code.quiet_builtin _ (by decide +kernel), codeAny_builtin entry_list_iadd' ?_⟩))
  show wpAny _ _ (Builtin.List.listExtendWith (.ref s.heap.objs.size) (.ref l) (.ref s.heap.objs.size)) _ _ { s with heap := s.heap.push (seqObj "list" #[] 0) }
  unfold Builtin.List.listExtendWith
  refine wpAny_bind (wpAny_typeOf (T := "tuple") ⟨o, e4, e2⟩ ?_)
  have tt : (Value.type "tuple" == Value.type "tuple") = true := by rfl
  rw [if_pos (by rw [tt]; simp)]
  refine wpAny_bind (listItems_at e4 e3 (wpAny_bind (listItems_at e5 rfl ?_)))
  rw [if_neg (by simp)]
  refine wpAny_bind (listUpdate_at e5 rfl (wpAny_pure ?_) (Nat.zero_le _) (by show (#[] ++ vs.toArray).size ≤ sizeLine + 1; simp only [Array.size_append, List.size_toArray, List.length_nil]; omega))
  show wpAny (model P w) A (do
      let o ← load s.heap.objs.size
      match o.data with
      | .seq xs _ => pure xs.toList
      | _ => unsupported "internal:collect") Q E { s with heap := (s.heap.push (seqObj "list" #[] 0)).update s.heap.objs.size (Obj.mapSeq (· ++ vs.toArray)) }
  refine wpAny_bind (wpAny_load (get?_update_seq e5 _) ?_)
  show wpAny _ _ (pure ((#[] : Array Value) ++ vs.toArray).toList) Q E _
  rw [show ((#[] : Array Value) ++ vs.toArray).toList = vs by simp]
  exact wpAny_pure h
end
section
variable {X : Cx}
/-- sorted(t), t a tuple -/
def rSortTD (K : PySem.W.Frag) : List V → Hp → VK → Prop := fun vs H Q => ∃ (a : Addr) (xs : List V) (ds : List PyData), vs = [V.ref a] ∧ SqT K H a xs ∧ DpAll K H xs ds ∧ AllAlike ds ∧ Sortable ds ∧ (∀ d ∈ ds, d.depth ≤ 60) ∧
  ∀ (zs : List (V × PyData)) (p : Addr), zs = (xs.zip ds).mergeSort (dataLe false Prod.snd) → H p = none → Q (.ref p) (upd H p (.lst (zs.map Prod.fst)))
theorem cr_sortedTD (hu : X.A.units + 65 < cLine) : CallR X (.builtin "sorted") (rSortTD X.K) := by
  intro pins s σ H vs us Q I r h
  obtain ⟨a, xs, ds, rfl, hs, hd, hal, hk, hdep, q⟩ := h
  rw [Vals.ref1 r]
  obtain ⟨its, rv, pl, hz⟩ := I.tuple hs
  refine Calls.call_function_entry PyProof.Rows.kind_sorted PyProof.Rows.plain_sorted PyProof.Rows.entry_sorted (PyProof.Rows.args_sorted1 _) ?_
  unfold Builtin.«sorted»
  refine wpAny_bind (m := checkCount "sorted" 1 1 _) (wpAny_pure ?_)
  have z2 : its.length ≤ sizeLine := by rw [← rv.length]; exact hz
  refine wpAny_bind (tuple_collect pl ?_ z2)
  obtain ⟨h', eh⟩ : ∃ h', (s.heap.push (seqObj "list" #[] 0)).update s.heap.objs.size (Obj.mapSeq (· ++ its.toArray)) = h' := ⟨_, rfl⟩
  have hk' : ∀ b o, s.heap.get? b = some o → h'.get? b = some o := fun b o e => by
    rw [← eh, Heap.get?_update_ne _ _ _ _ (Nat.ne_of_lt (Heap.lt_size e))]
    exact Heap.get?_push_of_some _ e
  rw [eh]
  have I1 : Inv X pins σ H { s with heap := h' } := I.kept (t' := s.toks) hk'
  obtain ⟨as, h6⟩ := Dp.readsAll I1 ds _ its hd rv
  have hlen := DpAll.len hd
  have e0 := each_zip (R := fun _ _ => True) rv h6
  have es2 : (xs.zip ds).map Prod.snd = ds := zip_snd hlen
  have lz : (xs.zip ds).length = xs.length := by rw [List.length_zip, hlen, Nat.min_self]
  refine wpAny_bind (wpAny_newList ?_ z2)
  have hoL : (h'.push (seqObj "list" its.toArray 0)).get? h'.objs.size = some (seqObj "list" its.toArray 0) := Heap.get?_push_size _ rfl
  show wpAny _ _ _ _ _ { s with heap := h'.push (seqObj "list" its.toArray 0) }
  have old : ∀ (b : Addr) (u : Obj), h'.get? b = some u → (sortingHeap (h'.push (seqObj "list" its.toArray 0)) h'.objs.size its).get? b = some u := fun b u hb =>
    sortingHeap_old (Nat.ne_of_lt (Heap.lt_size hb)) (Heap.get?_push_of_some _ hb)
  have er : EachIs (fun v (p : V × PyData) => ∃ as, Reads (sortingHeap (h'.push (seqObj "list" its.toArray 0)) h'.objs.size its) v p.2 as) its (xs.zip ds) := e0.mono fun _ _ z => let ⟨as, r⟩ := z.2; ⟨as, PyProof.Rows.Reads.keeps old r⟩
  have hal3 : AllAlike ((xs.zip ds).map Prod.snd) := by rw [es2]; exact hal
  have hout := sortVals_data (R := fun v (p : V × PyData) => RelV p.1 v) (enc := Prod.snd) false (e0.mono fun _ _ z => z.1) er hal3
  refine wpAny_bind (wpAny_holding (wpAny_call_entry PyProof.Rows.slot_list_sort ⟨_, hoL, rfl⟩ PyProof.Rows.entry_list_sort
    (list_sort_vals (κ := dataKind (sortingHeap (h'.push (seqObj "list" its.toArray 0)) h'.objs.size its) ((xs.zip ds).map Prod.snd)) (s := { s with heap := h'.push (seqObj "list" its.toArray 0) }) hoL
      (SortsAt.data (s := { s with heap := sortingHeap (h'.push (seqObj "list" its.toArray 0)) h'.objs.size its }) (each_map (R := fun v d => ∃ as, Reads (sortingHeap (h'.push (seqObj "list" its.toArray 0)) h'.objs.size its) v d as) Prod.snd er) hal3 (by rw [es2]; exact hk) fun d hd => ?_) z2 ⟨_, rfl, ?_⟩) (PyProof.Rows.args_list_sort _)))
  · rw [es2] at hd
    have := hdep d hd
    show X.A.units + 1 + 1 + d.depth < cLine
    omega
  · generalize hO : sortVals (dataKind (sortingHeap (h'.push (seqObj "list" its.toArray 0)) h'.objs.size its) ((xs.zip ds).map Prod.snd)) false its its = out at hout ⊢
    obtain ⟨e', he'⟩ := PyProof.Rows.sortedHeap_at (vs := its) (out := out.toArray) hoL
    have ll : (List.map Prod.fst ((xs.zip ds).mergeSort (dataLe false Prod.snd))).length ≤ sizeLine := by
      rw [List.length_map, List.length_mergeSort, lz]
      exact hz
    refine wpAny_pure ⟨_, rfl, .ref h'.objs.size, upd H h'.objs.size (.lst (((xs.zip ds).mergeSort (dataLe false Prod.snd)).map Prod.fst)), I1.laid (t' := s.toks) (fun b u eb => ?_) (Nat.le_refl _)
      (show ObjOk X.prog X.w _ _ _ (.lst _) from ⟨ll, out, e', vals_each (R := fun _ _ => True) hout, he'⟩), rfl, q _ _ rfl (I1.hok.fresh (Nat.le_refl _))⟩
    have hb : b < h'.objs.size := Heap.lt_size eb
    rw [PyProof.Rows.sortedHeap_old (Nat.ne_of_lt hb) (by rw [size_push']; exact Nat.lt_succ_of_lt hb)]
    exact Heap.get?_push_of_some _ eb
/-- sorted(x), x a list or a tuple -/
def sortedAQ (d : PyData) (K : List PyData → Prop) : Prop := match d with
  | .list ds => sortOk ds ∧ K (sortD ds)
  | .tuple ds => sortOk ds ∧ K (sortD ds)
  | _ => False
theorem q_sortedAT {ds : List PyData} {K : List PyData → Prop} : sortedAQ (.tuple ds) K = (sortOk ds ∧ K (sortD ds)) := rfl
theorem q_sortedAL {ds : List PyData} {K : List PyData → Prop} : sortedAQ (.list ds) K = (sortOk ds ∧ K (sortD ds)) := rfl
abbrev dSortedA (wa : DE) (env : List SD) (P : SD → List SD → Prop) : Prop := wa env fun d env1 => sortedAQ d fun xs => P (.cel false xs) env1
def rSortAD (K : PySem.W.Frag) : List V → Hp → VK → Prop := fun vs H Q => rSortDD K vs H Q ∨ rSortTD K vs H Q
theorem cr_sortedAD (hu : X.A.units + 65 < cLine) : CallR X (.builtin "sorted") (rSortAD X.K) := by
  intro pins s σ H vs us Q I r h
  rcases h with h | h
  · exact cr_sortedDD hu pins s σ H vs us Q I r h
  · exact cr_sortedTD hu pins s σ H vs us Q I r h
theorem sort_em {us : List V} {ds : List PyData} (hl : us.length = ds.length) : ((us.zip ds).mergeSort (dataLe false Prod.snd)).map Prod.snd = sortD ds := by
  have := sort_maps (r := dataLe false (Prod.snd (α := V))) (s := dataLe false id) Prod.snd (l := us.zip ds) (fun _ _ _ _ => rfl)
  rw [this, zip_snd hl]
  rfl
variable {a : Expr} {wa : DE} {p pos : Pos}
theorem dsortedA {k : Nat} (hr : Room k X.A) (hm : X.mg "sorted" = none) (ha : PE X a (liftE X.K Z wa)) (hg : Gl X "sorted" := by rfl)
    (n1 : starEach [a] X.env = (false, eval a X.env) :: starEach [] X.env := by rfl) :
    PE X (.Call (.Name "sorted" p) [a] [] pos) (liftX X.K Z (dSortedA wa)) :=
  PE.of (pe_callB (cr_sortedAD hr.u65) hg hm (by decide +kernel) (pa_cons ha pa_nil n1) (by decide) (by decide) n1 (by rfl)) fun σ H Q ⟨g, F, env, P, k, w, q⟩ =>
    ⟨g, F, env, _, k, w, fun d env1 v F1 H1 p e1 k1 r1 => by
      unfold sortedAQ at p
      have out : ∀ {ds : List PyData} {us : List V} (h2 : DRs X.K F1 us ds) (p : P (.cel false (sortD ds)) env1) (zs : List (V × PyData)) (a2 : Addr), zs = (us.zip ds).mergeSort (dataLe false Prod.snd) → H1 a2 = none → Q (.ref a2) (upd H1 a2 (.lst (zs.map Prod.fst))) := fun {ds us} h2 p zs a2 ez hp2 => by
        subst ez
        have dr := drs_of (zs := (us.zip ds).mergeSort (dataLe false Prod.snd)) fun p hp => drs_zip h2 p ((List.mergeSort_perm _ _).mem_iff.mp hp)
        rw [sort_em h2.length] at dr
        obtain ⟨k3, r3⟩ := k1.newCell hp2 dr
        exact q _ env1 _ F1 _ p e1 k3 r3
      split at p
      · rename_i ds
        obtain ⟨⟨s1, s2, s3, s4⟩, p⟩ := p
        obtain ⟨l, us, rfl, h1, h2⟩ := r1.inv_lst
        exact .inl ⟨l, us, ds, rfl, (h1.mono k1.fh).sq, DRs.dp (drsH k1 h2) s4, s1, s2, s3, out h2 p⟩
      · rename_i ds
        obtain ⟨⟨s1, s2, s3, s4⟩, p⟩ := p
        obtain ⟨l, us, rfl, h1, h2⟩ := r1.inv_tupZ
        exact .inr ⟨l, us, ds, rfl, (h1.mono k1.fh).sq, DRs.dp (drsH k1 h2) s4, s1, s2, s3, out h2 p⟩
      · exact p.elim⟩
end
section
variable {X : Cx} {e e2 : Expr} {wi we : DE} {m : Nat} {pos : Pos}
end
end DL

namespace DL
variable {T : List (PySem.Addr × PySem.Str)} {Z : Zx T}
open PySem PySem.Spec PyProof.Rows L2 PySem.W
open Evl (Ex)
section
variable {P : Program} {w : World} {A : Around} {E : Value → Shared → Prop} {s : Shared} {a : Addr}
theorem sorted_manyI {S : Int → Bool} {n : Nat} {Q : Value → Shared → Prop} (R : SetR w s.heap a S n) (hh : A.handled = none) (hu : A.units + 8 < cLine)
    (hQ : ∀ s' p (out : Array Value) (c : Nat) (ns : List Int), (∀ b o, s.heap.get? b = some o → s'.heap.get? b = some o) → s'.gens = s.gens → s'.os = s.os → s.heap.objs.size ≤ p →
      s'.heap.get? p = some (seqObj "list" out c) → Vals (ns.map V.int) out.toList → ns.Pairwise (· < ·) → (∀ k, k ∈ ns ↔ S k = true) → ns.length = n → Q (.ref p) s') :
    wpAny (model P w) A (call (.builtin "sorted") [.ref a]) Q E s := by
  obtain ⟨ob, es, ep, tb, h1, h2, h3, g, nd, hm, hb, hf, hn, hr, hl⟩ := R
  refine Calls.call_function_entry PyProof.Rows.kind_sorted PyProof.Rows.plain_sorted PyProof.Rows.entry_sorted (PyProof.Rows.args_sorted1 _) ?_
  (unfold Builtin.«sorted»; refine wpAny_bind (m := checkCount "sorted" 1 1 _) (wpAny_pure ?_))
  refine wpAny_bind (collect_set (A := A.in1) hh ⟨ob, h1, h2.1, h3⟩ hf hb hr hl fun s1 vs k1 hz g1 o1 pm => ?_)
  have len : vs.length = n := by rw [pm.length_eq, List.length_map, Array.length_toList]; exact hn
  have small : vs.length < 4096 := by rw [len, ← hn]; exact hb
  -- the whole numbers of the items
  obtain ⟨ns, rel, em⟩ : ∃ ns : List Int, EachIs (fun v (i : Int) => ∃ t, v = Value.int i t) vs ns ∧ ns = vs.map fun v => keyOf (0, v) := by
    have go : ∀ l : List Value, (∀ v ∈ l, ∃ i t, v = Value.int i t) → EachIs (fun v (i : Int) => ∃ t, v = Value.int i t) l (l.map fun v => keyOf (0, v)) := fun l => by
      induction l with
      | nil => exact fun _ => .nil
      | cons v l ih =>
        intro hv
        obtain ⟨i, t, rfl⟩ := hv v List.mem_cons_self
        exact .cons ⟨t, rfl⟩ (ih fun u hu => hv u (List.mem_cons_of_mem _ hu))
    refine ⟨_, go vs fun v hv => ?_, rfl⟩
    obtain ⟨e, he, q⟩ := List.mem_map.mp (pm.mem_iff.mp hv)
    obtain ⟨k, t, h1, _⟩ := g e he
    exact ⟨k, t, by rw [← q]; exact h1⟩
  have pk : ns.Perm (es.toList.map keyOf) := by
    rw [em]
    have q := pm.map fun v => keyOf ((0 : Int), v)
    rw [List.map_map] at q
    exact q
  refine wpAny_bind (wpAny_newList ?_ (by rw [sizeLine_eq]; omega))
  have hoL : (s1.heap.push (seqObj "list" vs.toArray 0)).get? s1.heap.objs.size = some (seqObj "list" vs.toArray 0) := Heap.get?_push_size _ rfl
  have er : EachIs (fun v (i : Int) => ∃ as, Reads (sortingHeap (s1.heap.push (seqObj "list" vs.toArray 0)) s1.heap.objs.size vs) v (.int i) as) vs ns := rel.mono fun _ _ ⟨t, e⟩ => ⟨[], by rw [e]; exact .int _ t⟩
  have hal : AllAlike (ns.map PyData.int) := AllAlike.of fun _ _ => rfl
  have hk : Sortable (ns.map PyData.int) := Sortable.others fun b => ⟨by simp, fun xs => by simp⟩
  have hout := sortVals_data (R := fun v (i : Int) => ∃ t, v = Value.int i t) (enc := PyData.int) false rel er hal
  refine wpAny_bind (wpAny_holding (wpAny_call_entry PyProof.Rows.slot_list_sort ⟨_, hoL, rfl⟩ PyProof.Rows.entry_list_sort
    (list_sort_vals (κ := dataKind (sortingHeap (s1.heap.push (seqObj "list" vs.toArray 0)) s1.heap.objs.size vs) (ns.map PyData.int)) (s := { s1 with heap := s1.heap.push (seqObj "list" vs.toArray 0) }) hoL
      (SortsAt.data (s := { s1 with heap := sortingHeap (s1.heap.push (seqObj "list" vs.toArray 0)) s1.heap.objs.size vs }) (each_map (R := fun v d => ∃ as, Reads (sortingHeap (s1.heap.push (seqObj "list" vs.toArray 0)) s1.heap.objs.size vs) v d as) PyData.int er) hal hk fun d hd => ?_) (by rw [sizeLine_eq]; omega) ⟨_, rfl, ?_⟩) (PyProof.Rows.args_list_sort _)))
  · obtain ⟨i, _, rfl⟩ := List.mem_map.mp hd
    show A.units + 1 + 1 + 0 < cLine
    omega
  · generalize hO : sortVals (dataKind (sortingHeap (s1.heap.push (seqObj "list" vs.toArray 0)) s1.heap.objs.size vs) (ns.map PyData.int)) false vs vs = out at hout ⊢
    obtain ⟨c, hc⟩ := PyProof.Rows.sortedHeap_at (vs := vs) (out := out.toArray) hoL
    obtain ⟨ms, eM⟩ : ∃ ms, ns.mergeSort (dataLe false PyData.int) = ms := ⟨_, rfl⟩
    rw [eM] at hout
    have pn : ms.Perm (es.toList.map keyOf) := by rw [← eM]; exact (List.mergeSort_perm _ _).trans pk
    have le : ms.Pairwise (· ≤ ·) := by
      have z : (ns.mergeSort (dataLe false PyData.int)).Pairwise fun a b => dataLe false PyData.int a b = true := sort_pairwise (sortLe_total _ _ _) ns
      have e : dataLe false PyData.int = fun a b : Int => decide (a ≤ b) := dataLe_int fun b : Int => b
      rw [eM, e] at z
      exact z.imp fun h => by simpa using h
    have mv : ∀ {us : List Value} {ks : List Int}, EachIs (fun v (i : Int) => ∃ t, v = Value.int i t) us ks → Vals (ks.map V.int) us := fun {us ks} h => by
      induction h with
      | nil => exact .nil
      | cons h _ ih => exact .cons h ih
    refine wpAny_pure ⟨_, rfl, hQ _ s1.heap.objs.size out.toArray c ms (fun b u e => ?_) g1 o1 hz hc (by simpa using mv hout) (lt_of_le_nodup ms le (pn.nodup_iff.mpr nd)) (fun k => by rw [pn.mem_iff, ← hm k]) (by rw [pn.length_eq, List.length_map, Array.length_toList]; exact hn)⟩
    have q := k1 b u e
    have hb : b < s1.heap.objs.size := Heap.lt_size q
    show (sortedHeap (s1.heap.push (seqObj "list" vs.toArray 0)) s1.heap.objs.size vs _).get? b = some u
    rw [PyProof.Rows.sortedHeap_old (Nat.ne_of_lt hb) (by rw [size_push']; exact Nat.lt_succ_of_lt hb)]
    exact Heap.get?_push_of_some _ q
end
section
variable {X : Cx}
def rSortedMI (w : World) : List V → Hp → VK → Prop := fun vs H Q => ∃ (a : Addr) (S : Int → Bool) (n : Nat), vs = [V.ref a] ∧ H a = some (SetO w a S n) ∧ n < 4096 ∧
  ∀ (ns : List Int) (p : Addr), ns.Pairwise (· < ·) → (∀ k : Int, k ∈ ns ↔ S k = true) → H p = none → Q (.ref p) (upd H p (.lst (ns.map V.int)))
theorem cr_sortedMI (hu : X.A.units + 8 < cLine) (hc : X.calm = true) : CallR X (.builtin "sorted") (rSortedMI X.w) := by
  intro pins s σ H vs us Q I r h
  obtain ⟨a, S, n, rfl, ha, hn, q⟩ := h
  have R := setO_get I ha
  rw [Vals.ref1 r]
  refine sorted_manyI R (I.ok.hd hc) hu fun s' p out c ns k g o hp hg hi hs hm hl => ?_
  have hlen : (ns.map V.int).length ≤ sizeLine := by rw [List.length_map, hl, sizeLine_eq]; omega
  have hn : H p = none := I.hok.fresh hp
  refine ⟨.ref p, upd H p (.lst (ns.map V.int)), I.call' (ch := []) o (Un.laid k hp hn) ?_ ?_ ?_, rfl, q ns p hs hm hn⟩
  · exact I.hok.laid k hp ⟨hlen, out.toList, c, hi, hg⟩
  · rw [g]; exact I.bare
  · intro _ z; exact nomatch z
def sortSetM (d : PyData) (K : List PyData → Prop) : Prop := match d with
  | .list ds => match intsD ds with
    | some ns => ns.length < 4000 ∧ ∀ ms : List Int, ms.Pairwise (· < ·) → (∀ k, k ∈ ms ↔ k ∈ ns) → K (ms.map .int)
    | none => False
  | _ => False
theorem q_sortSetM {ns : List Int} {K : List PyData → Prop} : sortSetM (.list (ns.map .int)) K = (ns.length < 4000 ∧ ∀ ms : List Int, ms.Pairwise (· < ·) → (∀ k, k ∈ ms ↔ k ∈ ns) → K (ms.map .int)) := by
  unfold sortSetM
  dsimp only
  rw [ints_map]
abbrev dSortSetM (wa : DE) (env : List SD) (P : SD → List SD → Prop) : Prop := wa env fun d env1 => sortSetM d fun xs => P (.cel false xs) env1
variable {a : Expr} {wa : DE} {p p2 pos pos2 : Pos}
theorem dsortSetM {k0 : Nat} (hr : Room k0 X.A) (hc : X.calm = true) (hm : X.mg "sorted" = none) (hm2 : X.mg "set" = none) (ha : PE X a (liftE X.K Z wa)) (hg : Gl X "sorted" := by rfl) (hg2 : Gl X "set" := by rfl)
    (n1 : starEach [a] X.env = (false, eval a X.env) :: starEach [] X.env := by rfl)
    (n2 : starEach [.Call (.Name "set" p2) [a] [] pos2] X.env = (false, eval (.Call (.Name "set" p2) [a] [] pos2) X.env) :: starEach [] X.env := by rfl) :
    PE X (.Call (.Name "sorted" p) [.Call (.Name "set" p2) [a] [] pos2] [] pos) (liftX X.K Z (dSortSetM wa)) :=
  PE.of (pe_callB (cr_sortedMI (by have := hr.u65; omega) hc) hg hm (by decide +kernel) (pa_cons (pe_callTy (call_setI hc) hg2 hm2 (by decide +kernel) (pa_cons ha pa_nil n1) (by decide) (by decide) n1 (by rfl)) pa_nil n2) (by decide) (by decide) n2 (by rfl)) fun σ H Q ⟨g, F, env, P, k, w, q⟩ =>
    ⟨g, F, env, _, k, w, fun d env1 v F1 H1 p e1 k1 r1 => by
      unfold sortSetM at p
      split at p
      · rename_i ds
        split at p
        · rename_i ns e
          obtain ⟨l, us, rfl, h1, h2⟩ := r1.inv_lst
          cases ints_rel h2 e
          have sb : ns.length + 1 < scanBound := by unfold scanBound; have := p.1; omega
          refine ⟨l, ns, rfl, (h1.mono k1.fh).sq, sb, fun a1 c hp1 hc1 => ?_⟩
          refine ⟨a1, _, c, rfl, upd_same, by have := p.1; omega, fun ms a2 s1 s2 hp2 => ?_⟩
          obtain ⟨k3, r3⟩ := (k1.extra (o := SetO X.w a1 (fun j => decide (j ∈ ns)) c) hp1).newCell hp2 (drs_ints ms)
          exact q _ env1 _ F1 _ (p.2 ms s1 fun z => (s2 z).trans decide_eq_true_iff) e1 k3 r3
        · exact p.elim
      · exact p.elim⟩
end
end DL

namespace DL
variable {T : List (PySem.Addr × PySem.Str)} {Z : Zx T}
open PySem PySem.Spec PyProof.Rows L2 PySem.W
open Evl (Ex)
section
variable {X : Cx} {a b c : Expr} {was : DA} {m : Nat} {pos : Pos}
abbrev dPar3 (i j l : Nat) (was : DA) (E : DEnds) (env : List SD) : Prop := was env fun ds env1 => match ds with
  | [d, c, e] => bIf (noPar env1 i && (noPar env1 j && noPar env1 l)) (E.nx (((env1.set i (.dat d)).set j (.dat c)).set l (.dat e))) False
  | _ => False
theorem drs_inv3 {K : PySem.W.Frag} {F : Hp} {vs : List V} {x y z : PyData} (r : DRs K F vs [x, y, z]) : ∃ u v w, vs = [u, v, w] ∧ DR K F u x ∧ DR K F v y ∧ DR K F w z := by
  cases r with
  | cons r1 r =>
    cases r with
    | cons r2 r =>
      cases r with
      | cons r3 r =>
        cases r
        exact ⟨_, _, _, rfl, r1, r2, r3⟩
theorem spar3 (i j l : Nat) {x y z : Str} {px py pz pt : Pos} {kt k2 pt2} (hc : X.calm = true) (hN : X.N.Nodup) (ha : PA X [a, b, c] (liftA X.K Z was)) (hi : X.N[i]? = some x := by rfl) (hj : X.N[j]? = some y := by rfl) (hl : X.N[l]? = some z := by rfl) (hij : i ≠ j := by decide) (hil : i ≠ l := by decide) (hjl : j ≠ l := by decide)
    (hx : X.env.scope.names.lookup x = some .local := by rfl) (hy : X.env.scope.names.lookup y = some .local := by rfl) (hz : X.env.scope.names.lookup z = some .local := by rfl)
    (hw : swappedStores [.Tuple [.Name x px, .Name y py, .Name z pz] kt pt] (.Tuple [a, b, c] k2 pt2) X.env = pure (some [x, y, z]) := by rfl)
    (hs : swapsWithSole [.Tuple [.Name x px, .Name y py, .Name z pz] kt pt] (.Tuple [a, b, c] k2 pt2) pos.line X.env = pure false := by rfl) :
    PS X (.Assign [.Tuple [.Name x px, .Name y py, .Name z pz] kt pt] (.Tuple [a, b, c] k2 pt2) pos) (liftS X.K Z m (dPar3 i j l was)) := PS.of (ps_par3 hc hN hi hj hl hij hil hjl hx hy hz ha hw hs) fun D σ H ⟨g, F, env, P, k, w, q⟩ =>
  ⟨g, F, env, _, k, w, fun ds env1 vs F1 H1 p e1 k1 r1 => by
    split at p
    · obtain ⟨u, v, w, rfl, r2, r3, r4⟩ := drs_inv3 r1
      obtain ⟨np, p⟩ := bIf_and p
      rw [Bool.and_eq_true, Bool.and_eq_true] at np
      exact ⟨u, v, w, rfl, q.nx _ _ F1 H1 p e1 (((k1.setD (noPar_of np.1) r2).setD (noPar_of (noPar_set np.2.1)) r3).setD (noPar_of (noPar_set (noPar_set np.2.2))) r4)⟩
    · exact p.elim⟩
end
end DL

namespace DL
variable {T : List (PySem.Addr × PySem.Str)} {Z : Zx T}
open PySem PySem.Spec PyProof.Rows L2 PySem.W
open Evl (Ex)
inductive Kx where
  | it
  | ix (b : Kx) (i : Nat)
  | hd (b : Kx) (n : Nat)
  | two (a b : Kx)
def Kx.val : Kx → PyData → Option PyData
  | .it, d => some d
  | .ix b i, d => match b.val d with
    | some (.tuple ds) => ds[i]?
    | _ => none
  | .hd b n, d => match b.val d with
    | some (.tuple ds) => if ds.length ≤ 1000 then some (.tuple (ds.take n)) else none
    | _ => none
  | .two a b, d => match a.val d, b.val d with
    | some x, some y => some (.tuple [x, y])
    | _, _ => none
inductive KbE (x : Str) : Expr → Kx → Prop
  | it {p : Pos} : KbE x (.Name x p) .it
  | ix {e : Expr} {b : Kx} {i j : Nat} {p pos : Pos} : KbE x e b → i < 1000 → KbE x (.Subscript e (.Constant (.int (i : Int)) j p) pos) (.ix b i)
  | hd {e : Expr} {b : Kx} {n j : Nat} {p p2 pos : Pos} : KbE x e b → n < 1000 → KbE x (.Subscript e (.Slice none (some (.Constant (.int (n : Int)) j p)) none p2) pos) (.hd b n)
  | two {e f : Expr} {a b : Kx} {x1} {pos : Pos} : KbE x e a → KbE x f b → (∀ env, backTo pos (starEach [e, f] env) = [(false, eval e env), (false, eval f env)]) → KbE x (.Tuple [e, f] x1 pos) (.two a b)
/-- all is kept, the value reads as d -/
def KpR (d : PyData) (s : Shared) (v : Value) (s' : Shared) : Prop := ∃ h' tk, s' = { s with heap := h', toks := tk } ∧ (∀ b o, s.heap.get? b = some o → h'.get? b = some o) ∧ ∃ as, Reads h' v d as
theorem KpR.trans {d : PyData} {s s' s'' : Shared} {v : Value} (k : ∃ h' tk, s' = { s with heap := h', toks := tk } ∧ (∀ b o, s.heap.get? b = some o → h'.get? b = some o)) (r : KpR d s' v s'') : KpR d s v s'' := by
  obtain ⟨h', tk, rfl, k⟩ := k
  obtain ⟨h2, tk2, rfl, k2, r⟩ := r
  exact ⟨h2, tk2, rfl, fun b o e => k2 b o (k b o e), r⟩
theorem KpR.kp {d : PyData} {s s' : Shared} {v : Value} (r : KpR d s v s') : ∃ h' tk, s' = { s with heap := h', toks := tk } ∧ (∀ b o, s.heap.get? b = some o → h'.get? b = some o) := by
  obtain ⟨h2, tk2, rfl, k2, r⟩ := r
  exact ⟨h2, tk2, rfl, k2⟩
theorem reads_tup {h : Heap} {v : Value} {ds : List PyData} {as : List Addr} (r : Reads h v (.tuple ds) as) : ∃ (a : Addr) (vs : List Value) (as' : List Addr), v = .ref a ∧ IsTup h a vs.toArray ∧ ReadsAll h vs ds as' := by
  cases r with
  | tuple h1 h2 h3 h4 => exact ⟨_, _, _, rfl, ⟨_, h1, h2, _, by rw [h3]⟩, h4⟩
theorem readsAll_get {h : Heap} : ∀ {vs : List Value} {ds : List PyData} {as : List Addr} {i : Nat} {d : PyData}, ReadsAll h vs ds as → ds[i]? = some d → ∃ v bs, vs[i]? = some v ∧ Reads h v d bs
  | _, _, _, _, _, .nil, e => by simp at e
  | _, _, _, 0, _, .cons r _, e => by simp at e; subst e; exact ⟨_, _, rfl, r⟩
  | _, _, _, i + 1, _, .cons _ r, e => by
    obtain ⟨v, bs, h1, h2⟩ := readsAll_get (i := i) r (by simpa using e)
    exact ⟨v, bs, by simpa using h1, h2⟩
theorem readsAll_take {h : Heap} : ∀ {vs : List Value} {ds : List PyData} {as : List Addr} (n : Nat), ReadsAll h vs ds as → ∃ bs, ReadsAll h (vs.take n) (ds.take n) bs
  | _, _, _, 0, _ => ⟨_, .nil⟩
  | _, _, _, _ + 1, .nil => ⟨_, .nil⟩
  | _, _, _, n + 1, .cons r t => by
    obtain ⟨bs, z⟩ := readsAll_take n t
    exact ⟨_, .cons r z⟩
theorem readsAll_len {h : Heap} : ∀ {vs : List Value} {ds : List PyData} {as : List Addr}, ReadsAll h vs ds as → vs.length = ds.length
  | _, _, _, .nil => rfl
  | _, _, _, .cons _ t => congrArg (· + 1) (readsAll_len t)
section
variable {P : Program} {w : World} {A : Around} {env : Env} {x : Str} {v : Value} {m : Str → Option Value}
theorem kb_run (hk : env.scope.kind = .function) (hx : env.kindOf x = some .local) (hm : m x = some v) (hd : (x == ("__debug__" : Str)) = false) {e : Expr} {kb : Kx} (h : KbE x e kb) :
    ∀ {d d' : PyData} {as : List Addr} {s : Shared}, kb.val d = some d' → s.heap.Ns env.locals m → Reads s.heap v d as → wpAny (model P w) A (eval e env) (KpR d' s) (fun _ _ => False) s := by
  induction h with
  | it =>
    intro d d' as s hv hn r
    cases hv
    exact wpAny_Name (wpAny_loadName_local hk hx hn hm ⟨s.heap, s.toks, rfl, fun _ _ e => e, as, r⟩) hd
  | @ix e b i j p pos he hi ih =>
    intro d d' as s hv hn r
    unfold Kx.val at hv
    split at hv
    · rename_i ds hb
      refine Subscript_ (wpAny_mono (ih hb hn r) (fun u s1 q => ?_) fun _ _ q => q)
      have kp := q.kp
      obtain ⟨h1, tk1, rfl, k1, as1, r1⟩ := q
      obtain ⟨a, vs, as', rfl, ht, ra⟩ := reads_tup r1
      obtain ⟨y, bs, hy, ry⟩ := readsAll_get ra hv
      have hl : i < vs.length := (List.getElem?_eq_some_iff.mp hy).1
      refine wpAny_Constant_int ?_
      refine subscriptTail_builtinR (x := y) ht.typeIs slot_tuple_getitem.lookup (getItem_tuple (s := { s with heap := h1, toks := tk1 + 1 }) (j := i) ht (by omega) (by omega) ?_ (by simpa using hy) ⟨rfl, h1, tk1 + 1, rfl, k1, bs, ry⟩) (by with_unfolding_all rfl)
      have := seqIndex_of (k := (i : Int)) (n := vs.toArray.size) (by omega) (by rw [List.size_toArray]; omega)
      simpa using this
    · cases hv
  | @hd e b n j p p2 pos he hi ih =>
    intro d d' as s hv hn r
    unfold Kx.val at hv
    split at hv
    · rename_i ds hb
      split at hv
      · rename_i hz
        cases hv
        refine Subscript_ (wpAny_mono (ih hb hn r) (fun u s1 q => ?_) fun _ _ q => q)
        obtain ⟨h1, tk1, rfl, k1, as1, r1⟩ := q
        obtain ⟨a, vs, as', rfl, ht, ra⟩ := reads_tup r1
        have hl := readsAll_len ra
        refine wpAny_Slice (wpAny_pure (wpAny_Constant_int (k := j) (pos := p) (wpAny_pure ?_)))
        have kp : ∀ b o, h1.get? b = some o → (h1.push { cls := .type "slice", data := .fields #[.none, .int (n : Int) tk1, .none] }).get? b = some o := fun b o e => Heap.get?_push_of_some _ e
        have ht2 := ht.keeps kp
        have hs : (h1.push { cls := .type "slice", data := .fields #[.none, .int (n : Int) tk1, .none] }).IsSliceOf h1.objs.size .none (.int (n : Int) tk1) .none := Heap.IsSliceOf.new ..
        obtain ⟨bs, rt⟩ := readsAll_take n ra
        have hsx : HT.sIx vs.toArray.size vs.toArray.size (some (n : Int)) = min n vs.length := by rw [HT.sIx_nat, List.size_toArray]
        refine tail_any (ops := [.ref h1.objs.size, .ref a]) ht2.typeIs slot_tuple_getitem.lookup ?_ (by with_unfolding_all rfl)
        by_cases hw : HT.sIx vs.toArray.size 0 none = 0 ∧ HT.sIx vs.toArray.size vs.toArray.size (some (n : Int)) = vs.toArray.size
        · refine getItem_tuple_whole ht2 hs .none (.int _ _) hw ⟨_, tk1 + 1, rfl, fun b o e => kp b o (k1 b o e), as', ?_⟩
          have h2 := hw.2
          rw [hsx, List.size_toArray] at h2
          obtain ⟨o, e1, e2, c, e3⟩ := ht2
          rw [List.take_of_length_le (by omega)]
          exact .tuple e1 e2 e3 (by simpa using PyProof.Rows.ReadsAll.keeps kp ra)
        · refine HT.getItem_tuple_cut ht2 hs .none (.int _ _) hw ⟨_, tk1 + 1, rfl, fun b o e => Heap.get?_push_of_some _ (kp b o (k1 b o e)), bs, ?_⟩ (by rw [List.size_toArray, sizeLine_eq]; omega)
          rw [hsx]
          refine .tuple (Heap.get?_push_size _ rfl) rfl rfl ?_
          have e : ((vs.toArray.toList.drop (HT.sIx vs.toArray.size 0 none)).take (min n vs.length - HT.sIx vs.toArray.size 0 none)).toArray.toList = vs.take n := by
            show (((vs.drop 0).take (min n vs.length - 0)).toArray.toList) = vs.take n
            rw [List.drop_zero, Nat.sub_zero]
            simp [List.take_eq_take_iff]
          rw [e]
          exact PyProof.Rows.ReadsAll.keeps (fun b o q => Heap.get?_push_of_some _ (kp b o q)) rt
      · cases hv
    · cases hv
  | @two e f a b x1 pos h1 h2 hb ih1 ih2 =>
    intro d d' as s hv hn r
    unfold Kx.val at hv
    split at hv
    · rename_i y1 y2 e1 e2
      cases hv
      refine wpAny_Tuple_spliced ?_
      rw [hb]
      refine Calls.spliced_cons (wpAny_mono (ih1 e1 hn r) (fun u1 s1 q1 => ?_) fun _ _ q => q)
      obtain ⟨g1, t1, rfl, k1, as1, r1⟩ := q1
      refine Calls.spliced_cons (wpAny_mono (ih2 e2 (hn.keeps k1) (PyProof.Rows.Reads.keeps k1 r)) (fun u2 s2 q2 => ?_) fun _ _ q => q)
      obtain ⟨g2, t2, rfl, k2, as2, r2⟩ := q2
      refine Calls.spliced_nil ⟨by show 2 ≤ sizeLine; rw [sizeLine_eq]; omega, _, t2, rfl, fun b o e => Heap.get?_push_of_some _ (k2 b o (k1 b o e)), as1 ++ (as2 ++ []), .tuple (Heap.get?_push_size _ rfl) rfl rfl ?_⟩
      have k3 : ∀ b o, g2.get? b = some o → (g2.push { cls := .type "tuple", data := .seq #[u1, u2] }).get? b = some o := fun b o e => Heap.get?_push_of_some _ e
      exact .cons (PyProof.Rows.Reads.keeps (fun b o e => k3 b o (k2 b o e)) r1) (.cons (PyProof.Rows.Reads.keeps k3 r2) .nil)
    · cases hv
end
end DL

namespace DL
variable {T : List (PySem.Addr × PySem.Str)} {Z : Zx T}
open PySem PySem.Spec PyProof.Rows L2 PySem.W
open Evl (Ex)
section
variable {X : Cx} {pins : List (Addr × Obj)} {σ : L2.St} {H : Hp} {s : Shared}
/-- what the making of a lambda does to the abstract heap -/
structure Grown (T : List (Addr × Str)) (H H1 : Hp) : Prop where
  sty : ∀ b o, H b = some o → Sty o (H1 b)
  tab : LamX.Tabs T H1
theorem lam_make3 {c P : Addr} {params : Arguments} {body : Expr} {scope : Scope} {pos : Pos} {E : Value → Shared → Prop} {Q : Value → Shared → Prop} (I : Inv X pins σ H s) (TB : LamX.TabB X.base X.mg c P) (hcode : X.env.code = .ref c)
    (hm : (P, X.env.qual ++ "<lambda>") ∈ T) (hu : ∀ p ∈ T, p.1 = P → p.2 = X.env.qual ++ "<lambda>") (hT : LamX.Tabs T H) (hdef : defaultsOf params X.env = ([], [])) (hcl : closureFor scope X.env = pure [])
    (h : ∀ (f c' : Addr) (pm ctv : Value) (H1 : Hp) (s' : Shared), Inv X pins σ H1 s' → Grown T H H1 →
      s'.heap.get? f = some (kla_obj "<lambda>" (X.env.qual ++ "<lambda>") params body scope [] pm c' ctv) → s'.heap.CodeRec (.ref c') (X.env.qual ++ "<lambda>") → Q (.ref f) s') :
    wpAny (model X.prog X.w) X.A (eval (.Lambda params body scope pos) X.env) Q E s := by
  obtain ⟨ps, hP, ht, ha⟩ := hT _ hm
  have bP : s.heap.BuiltinsAt X.mg P := TB.bm.keeps I.bk
  have oP : s.heap.get? P = some { cls := .none, data := .fields ps } := I.hok P _ hP
  refine kla_eval hdef ?_
  cases hc : codeAmong pos ps.toList with
  | some cv =>
    obtain ⟨c', rfl, hco⟩ := ha pos cv hc
    obtain ⟨⟨oc, vs, t, o1, o2, o3⟩, _, _⟩ := I.hok c' _ hco
    refine kla_makeFunctionHit (mg := X.mg) (c := c) (P := P) (ps := ps) hcl I.ok.glob (I.mod.glob.keeps I.bk) hcode (TB.code.keeps I.bk) oP ht hc bP fun ctv h' tk hx hsz => ?_
    refine h h'.objs.size c' ((X.mg "__name__").getD .none) ctv H _ (I.kept (t' := tk) fun b o e => Heap.get?_push_of_some _ (hx b o e)) ⟨fun b o e => .inl e, hT⟩ (Heap.get?_push_size _ rfl) ⟨c', oc, vs, t, rfl, Heap.get?_push_of_some _ (hx _ _ o1), o2, o3⟩
  | none =>
    refine kla_makeFunction (mg := X.mg) (c := c) (P := P) (ps := ps) hcl I.ok.glob (I.mod.glob.keeps I.bk) hcode (TB.code.keeps I.bk) oP ht hc TB.gP bP fun c' ctv h' tk hx hge hlt hrec htb => ?_
    obtain ⟨c2, oc, vs, t, e2, o1, o2, o3⟩ := hrec
    cases e2
    have nC : H c' = none := I.hok.fresh hge
    obtain ⟨ob, hob⟩ : ∃ ob, kla_obj "<lambda>" (X.env.qual ++ "<lambda>") params body scope [] ((X.mg "__name__").getD .none) c' ctv = ob := ⟨_, rfl⟩
    have old : ∀ b o, h'.get? b = some o → (h'.push ob).get? b = some o := fun b o e => Heap.get?_push_of_some _ e
    have J := LamX.inv_table (t' := tk) (more := #[rawInt pos.line, rawInt pos.col, .ref c']) (h' := h'.push ob) I hP (fun b o hb e => old _ _ (hx b o hb e)) (old _ _ htb) hge ⟨oc, vs, t, old _ _ o1, o2, o3⟩
    refine h h'.objs.size c' ((X.mg "__name__").getD .none) ctv _ _ (by rw [hob]; exact J) ⟨fun b o e => ?_, fun p hp => ?_⟩ (Heap.get?_push_size _ rfl) ⟨c', oc, vs, t, rfl, by rw [hob]; exact old _ _ o1, o2, o3⟩
    · have nb := ne_of_none e nC
      by_cases z : b = P
      · subst z
        rw [hP] at e
        cases e
        exact .inr ⟨ps, _, rfl, by rw [upd_ne nb, upd_same]⟩
      · exact .inl (by rw [upd_ne nb, upd_ne z]; exact e)
    · have cod : ∀ {c0 : Addr} {q : Str}, H c0 = some (LamX.CodeO c0 q) → upd (upd H P (.tbl (ps ++ #[rawInt pos.line, rawInt pos.col, .ref c']))) c' (LamX.CodeO c' (X.env.qual ++ "<lambda>")) c0 = some (LamX.CodeO c0 q) := fun {c0 q} e => by
        rw [upd_ne (ne_of_none e nC), upd_ne fun z => by rw [z, hP] at e; exact LamX.codeO_ne ps (Option.some.inj e).symm]
        exact e
      by_cases hb : p.1 = P
      · rw [hu p hp hb, hb]
        refine ⟨ps ++ #[rawInt pos.line, rawInt pos.col, .ref c'], by rw [upd_ne (ne_of_none hP nC), upd_same], ?_, fun p' cv hcv => ?_⟩
        · rw [Array.toList_append]
          exact TriplesOk_snoc _ _ _ _ ht
        · rw [Array.toList_append] at hcv
          rcases LamX.among_app _ ht hcv with z | z
          · obtain ⟨c0, e1, e2⟩ := ha p' cv z
            exact ⟨c0, e1, cod e2⟩
          · exact ⟨c', z, upd_same⟩
      · obtain ⟨ps', a1, a2, a3⟩ := hT p hp
        refine ⟨ps', by rw [upd_ne (ne_of_none a1 nC), upd_ne hb]; exact a1, a2, fun p' cv hcv => ?_⟩
        obtain ⟨c0, e1, e2⟩ := a3 p' cv hcv
        exact ⟨c0, e1, cod e2⟩
end
section
variable {K : PySem.W.Frag} {g : Gx Z} {F F' : Hp} {env : List SD} {σ : L2.St} {H H1 : Hp}
theorem Ok.grown (k : Ok K g F env σ H) (e : Grown T H H1) : Ok K g F env σ H1 where
  len := k.len
  fh := fun a o q => (e.sty a o (k.fh a o q)).same fun ps z => k.oldF.2 a ps (by rw [q, z])
  dat := k.dat
  cel := fun i p xs q => by
    obtain ⟨a, vs, h1, h2, h3, h4, h5⟩ := k.cel i p xs q
    exact ⟨a, vs, h1, h2, (e.sty _ _ h3).lst, h4, h5⟩
  sep := k.sep
  pin := k.pin
  frame := ⟨fun a o q n => (k.frame.stay a o q n).trans fun u hu => e.sty a u hu, e.tab⟩
  newF := k.newF
  oldF := k.oldF
  prot := fun a o q => by
    obtain ⟨h1, h2, h3⟩ := k.prot a o q
    exact ⟨(e.sty _ _ h1).same (g.pl a o q), h2, h3⟩
  dic := k.dic.keep (Ex.refl F) (fun _ _ _ z => z) fun a xs h n => ⟨n, (e.sty _ _ h).ext.trans h.symm⟩
theorem ResOk.grown {v : V} {r : SD} (k : Ok K g F env σ H) (e : Grown T H H1) (h : ResOk K g F env σ H v r) : ResOk K g F env σ H1 v r := by
  cases r with
  | un => exact h
  | dat d => exact h
  | dic kvs => exact h
  | cel b xs =>
    obtain ⟨a, us, h1, h2, h3, h4, h5, h6⟩ := h
    exact ⟨a, us, h1, h2, (e.sty _ _ h3).lst, h4, h5, h6⟩
end
end DL

namespace DL
variable {T : List (PySem.Addr × PySem.Str)} {Z : Zx T}
open PySem PySem.Spec PyProof.Rows L2 PySem.W
open Evl (Ex)
/-- the scope of a lambda of the one parameter x -/
structure LamK (scope : Scope) (x : Str) : Prop where
  kind : scope.kind = .function
  co : scope.isCoroutine = false
  gen : scope.isGenerator = false
  loc : scope.names.lookup x = some .local
  nocell : ∀ y ∈ scope.names, y.2 ≠ .cell
section
variable {P : Program} {w : World} {A : Around} {s : Shared}
theorem lam_turn {f c' : Addr} {x q : Str} {params : Arguments} {body : Expr} {scope : Scope} {pm ctv : Value} {kb : Kx} {v : Value} {d d' : PyData} {as : List Addr} (L : LamK scope x)
    (hf : s.heap.get? f = some (kla_obj "<lambda>" q params body scope [] pm c' ctv)) (hcd : s.heap.CodeRec (.ref c') q) (hroom : A.depth < recursionLimit) (lim : s.heap.NoLimit)
    (hbind : bindArgs (kla_fn "<lambda>" q params body scope [] pm (.ref c') ctv) ⟨[v], []⟩ = pure [(x, v)]) (hb : KbE x body kb) (hv : kb.val d = some d') (r : Reads s.heap v d as) (hdb : (x == ("__debug__" : Str)) = false) :
    wpAny (model P w) A (call (.ref f) [v]) (KpR d' s) (fun _ _ => False) s := by
  refine wpAny_call (kla_callFunE hroom hf rfl L.co L.gen rfl hcd ?_)
  rw [hbind]
  refine wpAny_pure (wpAny_newFunctionEnv L.nocell (fun y hy => ?_) (fun h₁ hns hsb => ⟨lim.fresh _ hsb, ?_⟩) L.kind)
  · simp at hy
    subst hy
    exact L.loc
  show codeAny _ _ (.expr body (envX q scope s.heap.objs.size f (.ref c') [])) _ _
  have kp : ∀ b o, s.heap.get? b = some o → h₁.get? b = some o := fun b o e => hsb.extBut b o (Nat.ne_of_lt (Heap.lt_size e)) (Heap.get?_push_of_some _ e)
  refine kla_codeExpr (wpAny_mono (kb_run (x := x) (v := v) (env := envX q scope s.heap.objs.size f (.ref c') []) (m := fun y => [(x, v)].reverse.lookup y) (s := { s with heap := h₁, toks := s.toks + [(x, v)].length }) L.kind L.loc (by simp) hdb hb hv hns (PyProof.Rows.Reads.keeps kp r)) (fun u s' z => ?_) fun _ _ z => z.elim)
  exact z.trans ⟨h₁, s.toks + [(x, v)].length, rfl, kp⟩
end
mutual
def flatD : PyData → Bool
  | .none => true
  | .bool _ => true
  | .int _ => true
  | .str _ => true
  | .tuple ds => flatAll ds
  | _ => false
def flatAll : List PyData → Bool
  | [] => true
  | d :: ds => flatD d && flatAll ds
end
mutual
theorem reads_flat {h : Heap} : ∀ {d : PyData} {v : Value} {as : List Addr}, flatD d = true → Reads h v d as → as = []
  | .none, _, _, _, .none => rfl
  | .bool _, _, _, _, .bool _ => rfl
  | .int _, _, _, _, .int _ _ => rfl
  | .str _, _, _, _, .str _ _ => rfl
  | .tuple ds, _, _, hd, .tuple _ _ _ h4 => readsAll_flat (show flatAll ds = true by unfold flatD at hd; exact hd) h4
  | .list _, _, _, hd, _ => by unfold flatD at hd; cases hd
theorem readsAll_flat {h : Heap} : ∀ {ds : List PyData} {vs : List Value} {as : List Addr}, flatAll ds = true → ReadsAll h vs ds as → as = []
  | [], _, _, _, .nil => rfl
  | d :: ds, _, _, hd, .cons r t => by
    unfold flatAll at hd
    obtain ⟨h1, h2⟩ := Bool.and_eq_true_iff.mp hd
    rw [reads_flat h1 r, readsAll_flat h2 t]
    rfl
end
section
variable {prog : Program} {w : World} {A : Around} {E : Value → Shared → Prop} {s : Shared}
/-- sorted(t, ..), t a tuple, is list.sort(..) of a new list -/
theorem sorted_of_sortT {l : Addr} {vs : List Value} {kw : List (Str × Value)} {Q : Value → Shared → Prop} (hl : s.heap.IsTuple l vs.toArray) (hL : vs.length ≤ sizeLine) (ha1 : argsOk "sorted" ⟨[.ref l], kw⟩) (ha2 : ∀ x, argsOk "list.sort" ⟨[.ref x], kw⟩)
    (body : ∀ E' : Value → Shared → Prop, wpAny (model prog w) A.in1.in1 (Builtin.«list.sort» ⟨[.ref (s.heap.objs.size + 1)], kw⟩) (fun f s' => f = .done (.ret .none) ∧ Q (.ref (s.heap.objs.size + 1)) s') E' { s with heap := copyHeap s.heap vs }) :
    wpAny (model prog w) A (call (.builtin "sorted") [.ref l] kw) Q E s := by
  refine call_function_entry_kw kind_sorted plain_sorted entry_sorted ha1 ?_
  unfold Builtin.«sorted»
  refine wpAny_bind (m := checkCount "sorted" 1 1 _) (wpAny_pure ?_)
  refine wpAny_bind (tuple_collect hl ?_ hL)
  refine wpAny_bind (wpAny_newList ?_ hL)
  have hsz : ((s.heap.push (seqObj "list" #[] 0)).update s.heap.objs.size (Obj.mapSeq (· ++ vs.toArray))).objs.size = s.heap.objs.size + 1 := by
    rw [Heap.size_update, size_push']
  show wpAny _ _ _ _ _ { s with heap := copyHeap s.heap vs }
  rw [hsz]
  refine wpAny_bind (wpAny_holding (wpAny_call_entry_kw slot_list_sort ⟨_, copyHeap_at s.heap vs, rfl⟩ entry_list_sort ?body (ha2 _)))
  case body =>
    show wpAny (model prog w) A.in1.in1 (Builtin.«list.sort» ⟨[.ref (s.heap.objs.size + 1)], kw⟩) _ _ _
    refine wpAny_mono (body _) (fun f s' hf => ?_) fun _ _ e => e
    obtain ⟨rfl, hq⟩ := hf
    exact ⟨_, rfl, wpAny_pure ⟨_, rfl, hq⟩⟩
/-- sorted(x, key=f), x a list or a tuple -/
theorem sortedK_any {β : Type} {bs : List β} {R : Value → β → Prop} {l f : Addr} {vs : List Value} {Q : Value → Shared → Prop} (k : β → PyData) (hl : s.heap.IsList l vs.toArray ∨ s.heap.IsTuple l vs.toArray) (e : EachIs R vs bs) (hal : AllAlike (bs.map k)) (hk : Sortable (bs.map k)) (hL : bs.length ≤ sizeLine)
    (hu : ∀ x, x ∈ bs → A.units + 2 + (k x).depth < cLine)
    (turn : ∀ (v : Value) (x : β), R v x → x ∈ bs → ∀ (h : Heap) (tk : Nat), (∀ b o, s.heap.get? b = some o → h.get? b = some o) →
      wpAny (model prog w) A.in1.in1 (call (.ref f) [v]) (KeyPure (k x) { s with heap := h, toks := tk }) (fun _ _ => False) { s with heap := h, toks := tk })
    (h : ∀ out c h' tk, (∀ b o, s.heap.get? b = some o → h'.get? b = some o) → s.heap.get? (s.heap.objs.size + 1) = none → h'.get? (s.heap.objs.size + 1) = some (seqObj "list" (List.toArray out) c) → out.length = bs.length → EachIs R out (bs.mergeSort (dataLe false k)) →
      Q (.ref (s.heap.objs.size + 1)) { s with heap := h', toks := tk }) :
    wpAny (model prog w) A (call (.builtin "sorted") [.ref l] [(Str.ofString "key", .ref f)]) Q E s := by
  rcases hl with hl | hl
  · exact sorted_key_data (b := false) k hl e hal hk hL hu (ksk_s1 _ _) (fun _ => ksk_l1 _ _) (fun _ => ksk_t1 _ _) turn h
  · have fresh : s.heap.get? (s.heap.objs.size + 1) = none := Heap.get?_none_of_le (Nat.le_succ _)
    have up : ∀ {g : Heap}, KeepsBut (s.heap.objs.size + 1) (copyHeap s.heap vs) g → ∀ b o, s.heap.get? b = some o → g.get? b = some o := fun {g} kp b o q =>
      kp b o (Nat.ne_of_lt (Nat.lt_succ_of_lt (Heap.lt_size q))) (copyHeap_old q)
    refine sorted_of_sortT hl (by rw [e.length]; exact hL) (ksk_s1 _ _) (fun _ => ksk_l1 _ _) fun E' => ?_
    rw [ksk_t1]
    refine keyH_tree (kz := bs.map k) (s := { s with heap := copyHeap s.heap vs }) (copyHeap_at s.heap vs) (by rw [List.length_map]; exact e.length.symm) (by rw [e.length]; exact hL) hal hk (bound_map (A := A.in1.in1) hu)
      (keyH_turns (s := { s with heap := copyHeap s.heap vs }) e fun v x hR hx h tk kp => turn v x hR hx h tk (up kp)) fun h' tk out c kp hD ko => ⟨rfl, ?_⟩
    exact h out c h' tk (up kp) fresh hD ((ko.length (by rw [List.length_map]; exact e.length.symm)).trans e.length) (keyedOut_each k ko e)
end
end DL

namespace DL
variable {T : List (PySem.Addr × PySem.Str)} {Z : Zx T}
open PySem PySem.Spec PyProof.Rows L2 PySem.W
open Evl (Ex)
def keyOf (kb : Kx) (d : PyData) : PyData := (kb.val d).getD .none
def sortKD (kb : Kx) (ds : List PyData) : List PyData := ds.mergeSort (dataLe false (keyOf kb))
def sortKOk (kb : Kx) (ds : List PyData) : Prop := (∀ d ∈ ds, ∃ k, kb.val d = some k ∧ flatD k = true ∧ k.depth ≤ 60) ∧ AllAlike (ds.map (keyOf kb)) ∧ Sortable (ds.map (keyOf kb)) ∧ PyData.hasDictAll ds = false
def sortedKQ (kb : Kx) (d : PyData) (K : List PyData → Prop) : Prop := match d with
  | .list ds => sortKOk kb ds ∧ K (sortKD kb ds)
  | .tuple ds => sortKOk kb ds ∧ K (sortKD kb ds)
  | _ => False
theorem q_sortedKL {kb : Kx} {ds : List PyData} {K : List PyData → Prop} : sortedKQ kb (.list ds) K = (sortKOk kb ds ∧ K (sortKD kb ds)) := rfl
theorem q_sortedKT {kb : Kx} {ds : List PyData} {K : List PyData → Prop} : sortedKQ kb (.tuple ds) K = (sortKOk kb ds ∧ K (sortKD kb ds)) := rfl
abbrev dSortedK (kb : Kx) (wa : DE) (env : List SD) (P : SD → List SD → Prop) : Prop := wa env fun d env1 => sortedKQ kb d fun xs => P (.cel false xs) env1
theorem sortKD_perm (kb : Kx) (ds : List PyData) : (sortKD kb ds).Perm ds := List.mergeSort_perm _ _
/-- where a def makes its lambdas -/
def LamC (base : Heap) (mg : Str → Option Value) (T : List (Addr × Str)) (cdv : Value) (q : Str) : Prop :=
  ∃ c P, cdv = .ref c ∧ LamX.TabB base mg c P ∧ (P, q ++ "<lambda>") ∈ T ∧ ∀ p ∈ T, p.1 = P → p.2 = q ++ "<lambda>"
section
variable {X : Cx} {pins : List (Addr × Obj)} {σ : L2.St} {H : Hp} {s : Shared}
/-- the call of sorted, the key's object known -/
theorem sortK_call {f c' l : Addr} {x q : Str} {params : Arguments} {body : Expr} {scope : Scope} {pm ctv : Value} {kb : Kx} {us : List V} {ds : List PyData} {Q : VK} {k : Nat} (hr : Room k X.A) (I : Inv X pins σ H s) (L : LamK scope x)
    (hf : s.heap.get? f = some (kla_obj "<lambda>" q params body scope [] pm c' ctv)) (hcd : s.heap.CodeRec (.ref c') q)
    (hbind : ∀ v, bindArgs (kla_fn "<lambda>" q params body scope [] pm (.ref c') ctv) ⟨[v], []⟩ = pure [(x, v)]) (hb : KbE x body kb) (hdb : (x == ("__debug__" : Str)) = false)
    (hs : SqL X.K H l us ∨ SqT X.K H l us) (hd : DpAll X.K H us ds) (ok : sortKOk kb ds)
    (h : ∀ (zs : List (V × PyData)) (p : Addr), zs = (us.zip ds).mergeSort (dataLe false fun p => keyOf kb p.2) → H p = none → Q (.ref p) (upd H p (.lst (zs.map Prod.fst)))) :
    wpAny (model X.prog X.w) X.A (call (.builtin "sorted") [.ref l] [(Str.ofString "key", .ref f)]) (EP X pins σ Q) X.xe s := by
  obtain ⟨o1, o2, o3, o4⟩ := ok
  obtain ⟨its, rv, pl, hz⟩ : ∃ its, Vals us its ∧ (s.heap.IsList l its.toArray ∨ s.heap.IsTuple l its.toArray) ∧ us.length ≤ sizeLine := by
    rcases hs with hs | hs
    · obtain ⟨its, rv, pl, hz⟩ := I.list hs
      exact ⟨its, rv, .inl pl.isList, hz⟩
    · obtain ⟨its, rv, pl, hz⟩ := I.tuple hs
      exact ⟨its, rv, .inr pl, hz⟩
  obtain ⟨as, h4⟩ := Dp.readsAll I ds _ its hd rv
  have hlen := DpAll.len hd
  have e := each_zip (R := fun _ _ => True) rv h4
  have es : (us.zip ds).map Prod.snd = ds := zip_snd hlen
  have es2 : (us.zip ds).map (fun p => keyOf kb p.2) = ds.map (keyOf kb) := by
    have z : (us.zip ds).map (fun p => keyOf kb p.2) = ((us.zip ds).map Prod.snd).map (keyOf kb) := by rw [List.map_map]; rfl
    rw [z, es]
  have lz : (us.zip ds).length = us.length := by rw [List.length_zip, hlen, Nat.min_self]
  have mem : ∀ p ∈ us.zip ds, p.2 ∈ ds := fun p hp => by rw [← es]; exact List.mem_map.mpr ⟨p, hp, rfl⟩
  refine sortedK_any (fun p : V × PyData => keyOf kb p.2) pl e (by rw [es2]; exact o2) (by rw [es2]; exact o3) (by rw [lz]; exact hz) (fun p hp => ?_) (fun v p ⟨r1, as', r2⟩ hp g tk kp => ?_) fun out c g tk kp hn hD hol ho => ?_
  · obtain ⟨k0, k1, k2, k3⟩ := o1 _ (mem p hp)
    have := hr.u65
    have e : keyOf kb p.2 = k0 := by unfold keyOf; rw [k1]; rfl
    show X.A.units + 2 + (keyOf kb p.2).depth < cLine
    rw [e]
    omega
  · obtain ⟨k0, k1, k2, k3⟩ := o1 _ (mem p hp)
    have e : keyOf kb p.2 = k0 := by unfold keyOf; rw [k1]; rfl
    show wpAny _ _ _ (KeyPure (keyOf kb p.2) _) _ _
    rw [e]
    refine wpAny_mono (lam_turn (s := { s with heap := g, toks := tk }) L (kp _ _ hf) (hcd.keeps kp) hr.depth (I.nolimit.keeps kp) (hbind v) hb k1 (PyProof.Rows.Reads.keeps kp r2) hdb) (fun u s' ⟨h2, tk2, e2, k4, as2, r4⟩ => ⟨h2, tk2, e2, k4, ?_⟩) fun _ _ z => z
    rw [reads_flat k2 r4] at r4
    exact r4
  · refine ⟨.ref (s.heap.objs.size + 1), upd H (s.heap.objs.size + 1) (.lst (((us.zip ds).mergeSort (dataLe false fun p => keyOf kb p.2)).map Prod.fst)), I.laid (t' := tk) (fun b u hb => kp b u hb) (Nat.le_succ _) ⟨?_, out, c, vals_each (R := fun _ _ => True) (ho.mono fun _ _ z => z.1), hD⟩, rfl, h _ _ rfl (I.hok.fresh (Nat.le_succ _))⟩
    rw [List.length_map, List.length_mergeSort, lz]
    exact hz
theorem sortK_em {kb : Kx} {us : List V} {ds : List PyData} (hl : us.length = ds.length) : ((us.zip ds).mergeSort (dataLe false fun p => keyOf kb p.2)).map Prod.snd = sortKD kb ds := by
  have := sort_maps (r := dataLe false (fun p : V × PyData => keyOf kb p.2)) (s := dataLe false (keyOf kb)) Prod.snd (l := us.zip ds) (fun _ _ _ _ => rfl)
  rw [this, zip_snd hl]
  rfl
end
section
variable {X : Cx} {a : Expr} {wa : DE} {p pos lpos kpos : Pos} {params : Arguments} {body : Expr} {scope : Scope} {x : Str}
theorem dsortedK {k : Nat} (kb : Kx) (hr : Room k X.A) (hm : X.mg "sorted" = none) (LC : LamC X.base X.mg T X.env.code X.env.qual) (ha : PE X a (liftE X.K Z wa)) (hb : KbE x body kb) (L : LamK scope x)
    (hbind : ∀ q pm cv ctv v, bindArgs (kla_fn "<lambda>" q params body scope [] pm cv ctv) ⟨[v], []⟩ = pure [(x, v)])
    (hdef : defaultsOf params X.env = ([], []) := by rfl) (hcl : closureFor scope X.env = pure [] := by rfl) (hdb : (x == ("__debug__" : Str)) = false := by decide) (hg : Gl X "sorted" := by rfl)
    (n1 : starEach [a] X.env = (false, eval a X.env) :: starEach [] X.env := by rfl) (n2 : backTo pos (starEach [a] X.env) = (false, eval a X.env) :: backTo pos (starEach [] X.env) := by rfl) (n3 : (backTo pos (starEach [a] X.env)).any (·.1) = false := by rfl) :
    PE X (.Call (.Name "sorted" p) [a] [⟨some "key", .Lambda params body scope lpos, kpos⟩] pos) (liftX X.K Z (dSortedK kb wa)) := ⟨fun pins s σ H Q I ⟨g, F, env, P, k0, w, q⟩ => by
  obtain ⟨c, PT, hcode, TB, hmem, hu⟩ := LC
  refine wpAny_Call_Name_kw (ld_blt (u := .builtin "sorted") I hg hm (by decide +kernel) ?_ (by decide) (by decide))
  have PA1 : PA X [a] (tCons (liftE X.K Z wa) tNil) := pa_cons ha pa_nil n1
  refine PyProof.Rows.callWith_kw (thn (PA1.run pos pins s σ H (fun vs H1 => ∃ v d env1 F1, vs = [v] ∧ sortedKQ kb d (fun xs => P (.cel false xs) env1) ∧ Ex F F1 ∧ Ok X.K g F1 env1 σ H1 ∧ DR X.K F1 v d) I ?_) fun us s1 ⟨vs, H1, I1, r1, q1⟩ => ?_) n2 n3 (by rfl) (by rfl)
  · exact ⟨g, F, env, _, k0, w, fun d env1 v F1 H1 p e1 k1 r1 => ⟨v, d, env1, F1, rfl, p, e1, k1, r1⟩⟩
  · obtain ⟨v, d, env1, F1, ev, p, e1, k1, rd⟩ := q1
    subst ev
    obtain ⟨u, eu, ru⟩ := vals1 r1
    subst eu
    show wpAny _ _ (evalAll [(do let v ← eval (.Lambda params body scope lpos) X.env; standAt pos; pure v)]) _ _ s1
    refine wpAny_evalAll_cons (wpAny_bind (lam_make3 I1 TB hcode hmem hu k1.frame.tab hdef hcl fun f c' pm ctv H2 s2 I2 gr hf hcd => wpAny_bind (wpAny_standAt (wpAny_pure (wpAny_evalAll_nil ?_)))))
    have k2 := k1.grown gr
    show wpAny _ _ (call (.builtin "sorted") [u] [(Str.ofString "key", .ref f)]) _ _ s2
    have fin : ∀ {ds : List PyData} {us : List V} (h2 : DRs X.K F1 us ds) (p : P (.cel false (sortKD kb ds)) env1) (zs : List (V × PyData)) (a2 : Addr), zs = (us.zip ds).mergeSort (dataLe false fun p => keyOf kb p.2) → H2 a2 = none → Q (.ref a2) (upd H2 a2 (.lst (zs.map Prod.fst))) := fun {ds us} h2 p zs a2 ez hp2 => by
      subst ez
      have dr := drs_of (zs := (us.zip ds).mergeSort (dataLe false fun p => keyOf kb p.2)) fun p hp => drs_zip h2 p ((List.mergeSort_perm _ _).mem_iff.mp hp)
      rw [sortK_em h2.length] at dr
      obtain ⟨k3, r3⟩ := k2.newCell hp2 dr
      exact q _ env1 _ F1 _ p e1 k3 r3
    unfold sortedKQ at p
    split at p
    · rename_i ds
      obtain ⟨ok, p⟩ := p
      obtain ⟨l, us, rfl, h1, h2⟩ := rd.inv_lst
      cases ru
      exact sortK_call hr I2 L hf hcd (fun v => hbind _ _ _ _ v) hb hdb (.inl (h1.mono k2.fh).sq) (DRs.dp (drsH k2 h2) ok.2.2.2) ok (fin h2 p)
    · rename_i ds
      obtain ⟨ok, p⟩ := p
      obtain ⟨l, us, rfl, h1, h2⟩ := rd.inv_tupZ
      cases ru
      exact sortK_call hr I2 L hf hcd (fun v => hbind _ _ _ _ v) hb hdb (.inr (h1.mono k2.fh).sq) (DRs.dp (drsH k2 h2) ok.2.2.2) ok (fin h2 p)
    · exact p.elim⟩
end
end DL

namespace DL
variable {T : List (PySem.Addr × PySem.Str)} {Z : Zx T}
open PySem PySem.Spec PyProof.Rows L2
open Evl (Ex)
/-- the defs that make lambdas, with the lambda's qualified name -/
class LamB (K : PySem.W.Frag) (base : Heap) (mg : Str → Option Value) (T : List (Addr × Str)) (lam : List (Str × Str)) : Prop where
  out : ∀ p ∈ lam, ∃ c P, PySem.W.tabIn K p.1 = some (c, P) ∧ LamX.TabB base mg c P ∧ (P, p.2) ∈ T
  uni : ∀ p ∈ T, ∀ q ∈ T, p.1 = q.1 → p.2 = q.2
theorem tabIn_code {K : PySem.W.Frag} {x : Str} {c P : Addr} {oc : Value} {od : Option Addr} {fd : FuncData} {osl : Array (Option Value)} (h : PySem.W.tabIn K x = some (c, P)) (lk : K.lookup (He.ga K x) = some ⟨oc, od, .func fd, osl⟩) : fd.code = .ref c := by
  unfold PySem.W.tabIn at h
  unfold He.ga at lk
  split at h
  · rename_i f hf
    rw [hf] at lk
    simp only [lk] at h
    split at h
    · rename_i c2 hc
      split at h
      · split at h
        · cases h
          exact hc
        · cases h
      · cases h
    · cases h
  · cases h
section
variable {P : Program} {w : World} {K : PySem.W.Frag} {mg : Str → Option Value} {base : Heap}
/-- a def that makes a lambda -/
theorem dfnL (lam : List (Str × Str)) [LB : LamB K base mg T lam] (m : Nat) {gx qual : Str} {st : Stmt} {fd : FuncData} {N ps : List Str} {k : Nat} {S : DSp} (i : Nat) (Fn : Fun K qual qual st (He.ga K gx) fd) (sc : FnScope N ps (defScope st)) (len : ∀ as Q, S as Q → as.length = ps.length) (cels : CelsIn m S)
    (hi : lam[i]? = some (gx, qual ++ ".<locals>." ++ "<lambda>"))
    (hbody : ∀ {Z : Zx T} (cdv : Value) (A : Around) (outer : List Env) (s : Shared) (H : Hp), LamC base mg T cdv (qual ++ ".<locals>.") → Room k (A.deeper (envOfC qual (defScope st) s.heap.objs.size (He.ga K gx) cdv)) → (A.deeper (envOfC qual (defScope st) s.heap.objs.size (He.ga K gx) cdv)).guards = some [] →
      ∃ t : DS, PSs (cxOf CX0 P w K mg base N qual (defScope st) (He.ga K gx) cdv A outer s H E0).nox (defBody st) (liftS K Z m t) ∧
        ∀ as Q, S as Q → t (defEnds m Q) (as ++ List.replicate (N.length - ps.length) .un)) : FnG P w K mg base T (k + 1) (He.ga K gx) fd ps S := by
  obtain ⟨oc, od, kV, doc, pm, an, cdv, ct, osl, rfl, lk, hcd⟩ := Fn.ex
  obtain ⟨c, PT, h1, h2, h3⟩ := LB.out _ (List.mem_of_getElem? hi)
  have LC : LamC base mg T cdv (qual ++ ".<locals>.") := ⟨c, PT, tabIn_code h1 lk, h2, h3, fun p hp z => LB.uni p hp _ h3 z⟩
  refine ⟨len, fun A outer s H args us vs Q hr hg e0 hb rv ⟨F0, as, PP, ha, hS, hQ⟩ => ?_⟩
  have hl : vs.length = ps.length := ha.len.symm.trans (len as PP hS)
  have hpl : ps.length ≤ N.length := by
    have := congrArg List.length sc.pre
    rw [List.length_take] at this
    omega
  have KX : K.In s.heap := e0.mod.kin.keeps fun b o e => (e0.bs b o e).1
  refine codeAny_call_function hr.depth (KX _ _ lk) rfl sc.co sc.gen rfl (PySem.W.codeRec_of KX hcd) (hb _ _ _ _ (wpAny_newFunctionEnv_cells sc.kind (fun ⟨n, v⟩ hy => ?_) fun env he s1 x => ?_))
  · rcases sc.par n (List.of_mem_zip hy).1 with q | q
    · exact .inl q
    · exact .inr ⟨q, PySem.W.cellsFrom_some _ _ _ (.inl q)⟩
  · subst he
    obtain ⟨t, ht, hq⟩ := hbody (Z := entryZ T P w F0 H vs as) cdv A outer s H LC (hr.deeper _) hg
    have I : Inv (cxOf CX0 P w K mg base N qual (defScope st) (He.ga K gx) cdv A outer s H E0) [] (start N vs) H s1 := inv_start sc hr.hd e0 hl rv x
    refine ⟨(e0.mod.nolimit.keeps fun b o e => (e0.bs b o e).1).keeps x.toInCall.keep, codeAny_func (wpAny_mono (ht.nox.run [] s1 (start N vs) H { nx := fun _ H' => Q .non H', rt := Q } I ?_) (fun fl s' hs => ?_) fun e s' hs => hs)⟩
    · have al : as.length = ps.length := len as PP hS
      refine ⟨entryG T P w F0 H vs as, F0, _, _, entry_ok ha al hpl, hq as PP hS, ?_⟩
      exact .mk4 (.mk (fun env' σ' F' H' p _ k' => hQ _ _ _ _ _ p (post_of k' (cels _ _ hS) .non)) (fun _ _ _ _ p => p.elim) (fun _ _ _ _ p => p.elim) (fun r env' v σ' F' H' p _ k' r' => hQ _ _ _ _ _ p (post_of k' (cels _ _ hS) r'))) rfl
    · have fin : ∀ {σ' : L2.St} {H' : Hp} {v : V} {u : Value}, Inv (cxOf CX0 P w K mg base N qual (defScope st) (He.ga K gx) cdv A outer s H E0) [] σ' H' s' → RelV v u → Q v H' → CE outer P w H s Q u s' :=
        fun {σ' H' v u} J r q => ⟨v, H', J.os, J.bare, J.base, J.hok, r, q⟩
      match fl, hs with
      | .ret u, ⟨v, σ', H', J, r, q⟩ => exact fin J r q
      | .next, ⟨σ', H', J, q⟩ => exact fin (v := V.non) (u := Value.none) J rfl q
      | .brk, ⟨_, _, _, q⟩ => exact q.elim
      | .cont, ⟨_, _, _, q⟩ => exact q.elim
theorem law_dataT {mb : Str → Option Value} {k n : Nat} {fa a : Addr} {fd : FuncData} {x : Str} {s₁ : Shared} {vs : List Value} {ns : List Int} {cs : List (Addr × Addr)}
    (KX : K.In s₁.heap) (hns : s₁.heap.Ns mainGlobals mg) (hb : s₁.heap.Ns builtinsNs mb) (hbb : ∀ x : Str, x ≠ "__name__" → mb x = bootBuiltins x) (hlim : s₁.heap.NoLimit) (hgn : s₁.gens = #[])
    (hT : ∀ p ∈ cs, s₁.heap.get? p.2 = some { cls := .none, data := .fields #[] }) (nT : ∀ p ∈ cs, K.lookup p.2 = none) (C : ∀ p ∈ cs, PySem.W.CodeHd s₁.heap p.1 p.2)
    (hbm : ∃ (bm : Addr) (ob : Obj), mg "__builtins__" = some (.ref bm) ∧ bm ≠ builtinsNs ∧ s₁.heap.get? bm = some ob ∧ ob.cls = .type "module" ∧ ob.dict = some builtinsNs ∧ ob.data = .plain)
    (ha : s₁.heap.get? a = some { cls := .type "list", data := .seq vs.toArray }) (hi : IntsAre vs ns) (hn : ns.length ≤ n) (hz : n ≤ sizeLine) (hr : Room k callerA)
    (hsys : SysD s₁.heap) (hTT : ∀ q ∈ T, ∃ p ∈ cs, p.2 = q.1) (Fn : ∀ base : Heap, K.In base → base.Ns mainGlobals mg → SysD base → (∀ p ∈ cs, LamX.TabB base mg p.1 p.2) → FnG P w K mg base T k fa fd [x] (lawS n)) (hbind : ∀ (s : Shared) (u : Value), BindsTo s fd ⟨[u], []⟩ [(x, u)]) :
    codeAny (model P w) callerA (.call (.ref fa) ⟨[.ref a], []⟩) (fun r s' => r = .ok (.ret (.bool true)) ∧ OldK s₁.heap s'.heap ∧ s'.os = s₁.os ∧ AllBare s'.gens) s₁ := by
  have rv := vals_ints hi
  have lenV := hi.length
  have hl : ns.length ≤ sizeLine := Nat.le_trans hn hz
  have memT : ∀ p ∈ cs, p.2 ∈ cs.map (·.2) := fun p hp => List.mem_map.mpr ⟨p, hp, rfl⟩
  have isT : ∀ b : Addr, b ∈ cs.map (·.2) → s₁.heap.get? b = some { cls := .none, data := .fields #[] } := fun b hb => by
    obtain ⟨p, hp, rfl⟩ := List.mem_map.mp hb
    exact hT p hp
  have aT : a ∉ cs.map (·.2) := fun z => by
    have q := isT a z
    rw [ha] at q
    cases (show Data.seq vs.toArray _ = Data.fields #[] from congrArg Obj.data (Option.some.inj q))
  -- F: the script's list, or nothing; the tables stand beside it
  have core : ∀ F : Hp, Only F → RdL K F a (ns.map V.int) → HOk P w F s₁.heap → (∀ b, F b ≠ none → b = a) → (F a ≠ none → K.lookup a = none) →
      codeAny (model P w) callerA (.call (.ref fa) ⟨[.ref a], []⟩) (fun r s' => r = .ok (.ret (.bool true)) ∧ OldK s₁.heap s'.heap ∧ s'.os = s₁.os ∧ AllBare s'.gens) s₁ := by
    intro F fO hS fok hA hK
    obtain ⟨H, eH⟩ : ∃ H : Hp, H = fun b => if b ∈ cs.map (·.2) then some (.tbl #[]) else F b := ⟨_, rfl⟩
    have atT : ∀ b, b ∈ cs.map (·.2) → H b = some (.tbl #[]) := fun b z => by rw [eH]; exact if_pos z
    have atF : ∀ b, b ∉ cs.map (·.2) → H b = F b := fun b z => by rw [eH]; exact if_neg z
    have exF : Ex F H := fun b u e => by rw [atF b fun z => aT (by rw [← hA b (by rw [e]; simp)]; exact z)]; exact e
    have hok : HOk P w H s₁.heap := fun b u e => by
      by_cases z : b ∈ cs.map (·.2)
      · rw [atT b z] at e
        cases e
        exact isT b z
      · rw [atF b z] at e
        exact (fok b u e).stay (fun c v _ q => q) (fun c q => exF _ _ q) fun c xs q => exF _ _ q
    have hN : ∀ b, H b ≠ none → b = a ∨ b ∈ cs.map (·.2) := fun b q => by
      by_cases z : b ∈ cs.map (·.2)
      · exact .inr z
      · rw [atF b z] at q
        exact .inl (hA b q)
    have noD : ∀ {b : Addr} {o : Obj}, s₁.heap.get? b = some o → (∀ vs n, o.data ≠ .seq vs n) → o.data ≠ .fields #[] → H b = none := fun {b o} e h1 h2 => by
      cases q : H b with
      | none => rfl
      | some u =>
        rcases hN b (by rw [q]; simp) with e' | e'
        · rw [e', ha] at e
          cases e
          exact (h1 _ _ rfl).elim
        · rw [isT b e'] at e
          cases e
          exact (h2 rfl).elim
    have noA : ∀ {b : Addr} {o : Obj} {es : Array DictEntry} {ep : Nat}, s₁.heap.get? b = some o → o.data = .dict es ep → H b = none := fun {b o es ep} e d =>
      noD e (fun vs n z => by rw [d] at z; cases z) fun z => by rw [d] at z; cases z
    have nsK : ∀ {b : Addr} {m : Str → Option Value}, s₁.heap.Ns b m → (hidT s₁.heap H).Ns b m := fun {b m} ⟨o, es, ep, e, d, r⟩ => ⟨o, es, ep, hidT_get e (noA e d), d, r⟩
    have hKb : K.In (hidT s₁.heap H) := fun b o e => hidT_get (KX b o e) (by
      cases q : H b with
      | none => rfl
      | some u =>
        rcases hN b (by rw [q]; simp) with e' | e'
        · rw [e'] at e q
          rw [atF a aT] at q
          rw [hK (by rw [q]; simp)] at e
          cases e
        · obtain ⟨p, hp, ep⟩ := List.mem_map.mp e'
          rw [← ep, nT p hp] at e
          cases e)
    have hM : Mod K mg (hidT s₁.heap H) := ⟨hKb, nsK hns, ⟨mb, nsK hb, hbb⟩, let ⟨mc, h1, h2⟩ := hlim; ⟨mc, nsK h1, h2⟩⟩
    have TB : ∀ p ∈ cs, LamX.TabB (hidT s₁.heap H) mg p.1 p.2 := fun p hp => by
      have hTp := hT p hp
      have neG : ∀ {b : Addr} {ob : Obj}, s₁.heap.get? b = some ob → ob.data = .plain → b ≠ mainGlobals ∧ b ≠ p.2 := fun {b ob} e d => by
        constructor
        · intro z
          obtain ⟨o, es, ep, e', hd, _⟩ := hns
          rw [z, e'] at e
          cases e
          rw [hd] at d
          cases d
        · intro z
          rw [z, hTp] at e
          cases e
          cases d
      refine ⟨?_, ?_, fun z => ?_⟩
      · obtain ⟨o, us, file, tf, flags, tg, inF, text, tt, e1, r1, r2, r3, r⟩ := C p hp
        exact ⟨o, us, file, tf, flags, tg, inF, text, tt, hidT_get e1 (noD e1 (fun vs n z => by rw [r2] at z; cases z) fun z => by rw [r2] at z; cases z; simp at r3), r1, r2, r3, r⟩
      · obtain ⟨bm, ob, b1, b2, b3, b4, b5, b6⟩ := hbm
        obtain ⟨n1, n2⟩ := neG b3 b6
        exact ⟨bm, ob, b1, b2, n1, n2, hidT_get b3 (noD b3 (fun vs n z => by rw [b6] at z; cases z) fun z => by rw [b6] at z; cases z), b4, b5, b6⟩
      · obtain ⟨o, es, ep, e, hd, _⟩ := hns
        rw [z, hTp] at e
        cases e
        cases hd
    have e0 : Env0 P w K mg (hidT s₁.heap H) callerA [] s₁ H := ⟨rfl, hM, fun b o e => of_hidT e, Nat.le_of_eq (hidT_size _ _), trivial, fun b hb => absurd (show b ∈ ([] : List Addr) from hb) (by simp), hok, .of_eq hgn⟩
    have goal : spD T K (lawS n) [.ref a] H (fun v _ => v = .bl true) := by
      refine ⟨F, [.dat (.list (ns.map .int))], fun r _ => r = .dat (.bool true), args_dat exF (fun q hq => ?_) (fun b ps z => by rcases fO b with y | ⟨o, xs, y⟩ <;> rw [y] at z <;> cases z) (ds := [.list (ns.map .int)]) (.one (.lst hS (drs_ints ns))), ⟨⟨ns, rfl, hn⟩, fun _ => rfl⟩, fun r as' v F' H' p po => ?_⟩
      · obtain ⟨p, hp, e⟩ := hTT q hq
        rw [← e]
        exact LamX.TabS.nil (atT _ (memT p hp))
      · subst p
        exact DR.inv_bool po.res
    refine codeAny_mono ((Fn _ hKb (nsK hns) (let ⟨o, es, ep, e, d⟩ := hsys; ⟨o, es, ep, hidT_get e (noA e d), d⟩) TB).go callerA [] s₁ H ⟨[.ref a], []⟩ [.ref a] [.ref a] _ hr rfl e0 (hbind s₁ (.ref a)) (.cons rfl .nil) goal) fun r s' h => ?_
    match r, h with
    | .error e, h => exact h.elim
    | .ok .next, h => exact h.elim
    | .ok .brk, h => exact h.elim
    | .ok .cont, h => exact h.elim
    | .ok (.ret u), ⟨v, H', os, bare, un, hok', r', q⟩ =>
      have q' : v = .bl true := q
      subst q'
      obtain rfl : u = Value.bool true := r'
      have key : ∀ b o, b ∉ cs.map (·.2) → s₁.heap.get? b = some o → s'.heap.get? b = some o := fun b o nb e => by
        cases q : H b with
        | none => exact un.keep b o e q (by intro z; exact absurd (show b ∈ ([] : List Addr) from z) (by simp)) (by simp)
        | some u =>
          have q' := q
          rw [atF b nb] at q'
          rcases fO b with z | ⟨ob, xs, z⟩
          · rw [q'] at z; cases z
          · rw [q'] at z
            cases z
            have z2 := un.frzs b ob _ q
            obtain ⟨e1, _⟩ := hok b _ q
            obtain ⟨e2, _⟩ := hok' b _ z2
            rw [e] at e1; cases e1
            exact e2
      have grown : ∀ p ∈ cs, ∃ more : Array Value, s'.heap.get? p.2 = some { cls := .none, data := .fields more } := fun p hp => by
        obtain ⟨more, z⟩ := un.tbls p.2 #[] (atT _ (memT p hp))
        exact ⟨_, hok' p.2 _ z⟩
      refine ⟨rfl, ⟨fun b o e => ?_, fun b o e => ?_⟩, os, bare⟩
      · by_cases hb : b ∈ cs.map (·.2)
        · obtain ⟨p, hp, ep⟩ := List.mem_map.mp hb
          obtain ⟨more, hm⟩ := grown p hp
          rw [← ep] at e ⊢
          rw [hT p hp] at e
          cases e
          exact .inr (.inl ⟨((C p hp).tab (hT p hp)).isCodeTable, rfl, #[], more, rfl, by rw [Array.empty_append]; exact hm⟩)
        · exact .inl (key b o hb e)
      · by_cases hb : b ∈ cs.map (·.2)
        · obtain ⟨p, hp, ep⟩ := List.mem_map.mp hb
          obtain ⟨more, hm⟩ := grown p hp
          rw [← ep]
          exact ⟨_, hm⟩
        · exact ⟨o, key b o hb e⟩
  cases hk : K.lookup a with
  | some o =>
    have e := KX a o hk
    rw [ha] at e
    cases e
    exact core (fun _ => none) (fun _ => .inl rfl) (.inr ⟨vs, 0, hk, rv, by rw [lenV]; exact hl⟩) (fun b u z => by cases (show (none : Option HO) = some u from z)) (fun b z => absurd rfl z) fun z => absurd rfl z
  | none =>
    refine core (fun b => if b = a then some (.frz { cls := .type "list", data := .seq vs.toArray } (.lst (ns.map V.int))) else none) (fun b => ?_) (.inl (.inr ⟨{ cls := .type "list", data := .seq vs.toArray }, if_pos rfl⟩)) (fun b u z => ?_) (fun b z => ?_) fun _ => hk
    · by_cases hb : b = a
      · exact .inr ⟨_, _, if_pos hb⟩
      · exact .inl (if_neg hb)
    · by_cases hb : b = a
      · cases (if_pos hb).symm.trans z
        subst hb
        exact ⟨ha, by rw [List.length_map]; exact hl, vs, _, rv, ha⟩
      · cases (if_neg hb).symm.trans z
    · by_cases hb : b = a
      · exact hb
      · exact absurd (if_neg hb) z
end
end DL

namespace DL
variable {T : List (PySem.Addr × PySem.Str)} {Z : Zx T}
open PySem PySem.Spec PyProof.Rows L2
open Evl (Ex)
theorem isTab_ok {x : Option Obj} (h : isTab x = true) : x = some { cls := .none, data := .fields #[] } := by
  unfold isTab at h
  split at h
  · rename_i vs sl
    obtain ⟨h1, h2⟩ := He.ba h
    obtain rfl : vs = #[] := by simpa using h1
    obtain rfl : sl = #[] := by simpa using h2
    rfl
  · cases h
def tabsOf (K : PySem.W.Frag) (lam : List (Str × Str)) : List (Addr × Str) := lam.filterMap fun p => (PySem.W.tabIn K p.1).map fun z => (z.2, p.2)
def csOf (K : PySem.W.Frag) (lam : List (Str × Str)) : List (Addr × Addr) := lam.filterMap fun p => PySem.W.tabIn K p.1
def lamOne (K : PySem.W.Frag) (g : Addr → Option Obj) (p : Str × Str) : Bool := match PySem.W.tabIn K p.1 with
  | some (c, P) => PySem.W.codeHdIn K c P && isTab (g P)
  | none => false
def lamG (K : PySem.W.Frag) (g : Addr → Option Obj) (lam : List (Str × Str)) : Bool := lam.all (lamOne K g) && uniT (tabsOf K lam)
def LamSays (lam : List (Str × Str)) (K : PySem.W.Frag) (h : Heap) : Prop :=
  (∀ p ∈ lam, ∃ c P, PySem.W.tabIn K p.1 = some (c, P) ∧ PySem.W.CodeHd h c P ∧ h.get? P = some { cls := .none, data := .fields #[] } ∧ K.lookup P = none) ∧ ∀ p ∈ tabsOf K lam, ∀ q ∈ tabsOf K lam, p.1 = q.1 → p.2 = q.2
theorem LamSays.keeps {lam : List (Str × Str)} {K : PySem.W.Frag} {h h' : Heap} (x : LamSays lam K h) (k : ∀ b o, h.get? b = some o → h'.get? b = some o) : LamSays lam K h' :=
  ⟨fun p hp => let ⟨c, P, h1, h2, h3, h4⟩ := x.1 p hp; ⟨c, P, h1, h2.keeps k, k _ _ h3, h4⟩, x.2⟩
section
variable {K : PySem.W.Frag} {lam : List (Str × Str)} {base h : Heap} {mg : Str → Option Value}
theorem lamB_of (x : LamSays lam K h) (TB : ∀ p ∈ csOf K lam, LamX.TabB base mg p.1 p.2) : LamB K base mg (tabsOf K lam) lam :=
  ⟨fun p hp => let ⟨c, P, h1, _⟩ := x.1 p hp; ⟨c, P, h1, TB (c, P) (List.mem_filterMap.mpr ⟨p, hp, h1⟩), List.mem_filterMap.mpr ⟨p, hp, by rw [h1]; rfl⟩⟩, x.2⟩
theorem cs_says (x : LamSays lam K h) : ∀ p ∈ csOf K lam, PySem.W.CodeHd h p.1 p.2 ∧ h.get? p.2 = some { cls := .none, data := .fields #[] } ∧ K.lookup p.2 = none := fun p hp => by
  obtain ⟨q, hq, e⟩ := List.mem_filterMap.mp hp
  obtain ⟨c, P, h1, h2, h3, h4⟩ := x.1 q hq
  rw [h1] at e
  cases e
  exact ⟨h2, h3, h4⟩
theorem tabs_cs : ∀ q ∈ tabsOf K lam, ∃ p ∈ csOf K lam, p.2 = q.1 := fun q hq => by
  obtain ⟨p, hp, e⟩ := List.mem_filterMap.mp hq
  cases z : PySem.W.tabIn K p.1 with
  | none => rw [z] at e; cases e
  | some y =>
    rw [z] at e
    cases e
    exact ⟨y, List.mem_filterMap.mpr ⟨p, hp, z⟩, rfl⟩
end
/-- the goal that a head by facts leaves, the defs with lambdas among them -/
theorem walk_dataL {lam : List (Str × Str)} {l : PySem.W.OpenLaw} {n k : Nat} {q : Program} {loose : List Str} {XP : (Str → Option Value) → Heap → Prop} {YP : World → Heap → Prop} {d : DefRec} {x : Str}
    (hn : l.most = some n) (hn2 : n ≤ sizeLine) (hdf : d.params.defaults = []) (hr : Room k callerA)
    (Fn : ∀ (w : World) (mg : Str → Option Value) (fa : Addr) (h : Heap), YP w h → h.Ns mainGlobals mg → mg d.name = some (.ref fa) →
      ∃ (K : PySem.W.Frag) (fd : FuncData), K.In h ∧ SysD h ∧ LamSays lam K h ∧ (∀ (s : Shared) (u : Value), BindsTo s fd ⟨[u], []⟩ [(x, u)]) ∧
        ∀ base : Heap, K.In base → base.Ns mainGlobals mg → SysD base → LamB K base mg (tabsOf K lam) lam → FnG l.prog w K mg base (tabsOf K lam) k fa fd [x] (lawS n)) :
    PySem.W.WalkO q loose XP YP l.row.toRowW d [] (fun f vs => PySem.call f vs) := by
  refine Att.attach_call hn hdf fun w s₀ s₁ mg mb fa o pm cd doc a vs ns G Y ho hd hcd hmg hobj hints hlen hg => ?_
  obtain ⟨K, fd, KX, hsys, hlam, hb, hF⟩ := Fn w mg fa _ Y G.T.g hmg
  have cs := cs_says hlam
  exact law_dataT (cs := csOf K lam) KX G.T.g G.T.b G.T.builtins G.T.nolimit hg (fun p hp => (cs p hp).2.1) (fun p hp => (cs p hp).2.2) (fun p hp => (cs p hp).1) G.T.bmain hobj hints hlen hn2 hr hsys tabs_cs (fun base h1 h2 h3 h4 => hF base h1 h2 h3 (lamB_of hlam h4)) hb
end DL

namespace DL
variable {T : List (PySem.Addr × PySem.Str)} {Z : Zx T}
open PySem PySem.Spec PyProof.Rows L2 PySem.W
open Evl (Ex)
abbrev KVM := List (PyData × PyData)
def isKy : PyData → Key → Bool
  | .int m, .inl n => decide (m = n)
  | .str x, .inr y => decide (x = y)
  | _, _ => false
theorem isKy_int {m n : Int} : isKy (.int m) (.inl n) = decide (m = n) := rfl
theorem isKy_str {x y : Str} : isKy (.str x) (.inr y) = decide (x = y) := rfl
def atM (ds : KVM) (k : Key) : Option PyData := (ds.find? fun p => isKy p.1 k).map (·.2)
def putM (ds : KVM) (k : Key) (d : PyData) : KVM := if (ds.any fun p => isKy p.1 k) = true then ds.map (fun p => if isKy p.1 k = true then (p.1, d) else p) else ds ++ [(keyD k, d)]
section
variable {K : PySem.W.Frag} {F : Hp}
theorem isKy_i {n : Int} {k : Key} : isKy (.int n) k = decide ((Sum.inl n : Key) = k) := by
  cases k with
  | inl m =>
    rw [isKy_int]
    by_cases e : n = m
    · subst e; simp
    · rw [decide_eq_false e, decide_eq_false fun z => e (Sum.inl.inj z)]
  | inr y => rfl
theorem isKy_s {x : Str} {k : Key} : isKy (.str x) k = decide ((Sum.inr x : Key) = k) := by
  cases k with
  | inl m => rfl
  | inr y =>
    rw [isKy_str]
    by_cases e : x = y
    · subst e; simp
    · rw [decide_eq_false e, decide_eq_false fun z => e (Sum.inr.inj z)]
theorem DM.any (k : Key) : ∀ {vs : List (Key × V)} {ds : KVM}, DM K F vs ds → (vs.any fun kv => decide (kv.1 = k)) = ds.any fun p => isKy p.1 k
  | _, _, .nil => rfl
  | _, _, .int (n := n) _ b => by rw [List.any_cons, List.any_cons, DM.any k b, isKy_i]
  | _, _, .str (x := x) _ b => by rw [List.any_cons, List.any_cons, DM.any k b, isKy_s]
theorem DM.val (k : Key) : ∀ {vs : List (Key × V)} {ds : KVM}, DM K F vs ds → (atM ds k = none ∧ valV vs k = none) ∨ ∃ d v, atM ds k = some d ∧ valV vs k = some v ∧ DR K F v d
  | _, _, .nil => .inl ⟨rfl, rfl⟩
  | _, _, .int (n := n) (v := v) (d := d) (vs := vs) (ds := ds) a b => by
    by_cases e : (Sum.inl n : Key) = k
    · exact .inr ⟨d, v, by simp [atM, List.find?_cons, isKy_i, e], by simp [valV, List.find?_cons, e], a⟩
    · have x : atM ((.int n, d) :: ds) k = atM ds k := by simp [atM, List.find?_cons, isKy_i, e]
      have y : valV ((.inl n, v) :: vs) k = valV vs k := by simp [valV, List.find?_cons, e]
      rw [x, y]
      exact DM.val k b
  | _, _, .str (x := x) (v := v) (d := d) (vs := vs) (ds := ds) a b => by
    by_cases e : (Sum.inr x : Key) = k
    · exact .inr ⟨d, v, by simp [atM, List.find?_cons, isKy_s, e], by simp [valV, List.find?_cons, e], a⟩
    · have y1 : atM ((.str x, d) :: ds) k = atM ds k := by simp [atM, List.find?_cons, isKy_s, e]
      have y : valV ((.inr x, v) :: vs) k = valV vs k := by simp [valV, List.find?_cons, e]
      rw [y1, y]
      exact DM.val k b
theorem DM.snoc {k : Key} {v : V} {d : PyData} (r : DR K F v d) : ∀ {vs : List (Key × V)} {ds : KVM}, DM K F vs ds → DM K F (vs ++ [(k, v)]) (ds ++ [(keyD k, d)])
  | _, _, .nil => by cases k with
    | inl n => exact .int r .nil
    | inr x => exact .str r .nil
  | _, _, .int a b => .int a (DM.snoc r b)
  | _, _, .str a b => .str a (DM.snoc r b)
theorem DM.repl {k : Key} {v : V} {d : PyData} (r : DR K F v d) : ∀ {vs : List (Key × V)} {ds : KVM}, DM K F vs ds → DM K F (vs.map fun kv => if kv.1 = k then (kv.1, v) else kv) (ds.map fun p => if isKy p.1 k = true then (p.1, d) else p)
  | _, _, .nil => .nil
  | _, _, .int (n := n) a b => by
    rw [List.map_cons, List.map_cons]
    by_cases e : (Sum.inl n : Key) = k
    · rw [if_pos e, if_pos (by rw [isKy_i]; exact decide_eq_true e)]
      exact .int r (DM.repl r b)
    · rw [if_neg e, if_neg (by rw [isKy_i, decide_eq_false e]; simp)]
      exact .int a (DM.repl r b)
  | _, _, .str (x := x) a b => by
    rw [List.map_cons, List.map_cons]
    by_cases e : (Sum.inr x : Key) = k
    · rw [if_pos e, if_pos (by rw [isKy_s]; exact decide_eq_true e)]
      exact .str r (DM.repl r b)
    · rw [if_neg e, if_neg (by rw [isKy_s, decide_eq_false e]; simp)]
      exact .str a (DM.repl r b)
theorem DM.put {vs : List (Key × V)} {ds : KVM} (h : DM K F vs ds) (k : Key) {v : V} {d : PyData} (r : DR K F v d) : DM K F (putK vs k v) (putM ds k d) := by
  unfold putK putM
  rw [h.any k]
  split
  · exact h.repl r
  · exact h.snoc r
theorem DM.keys : ∀ {vs : List (Key × V)} {ds : KVM}, DM K F vs ds → DRs K F (vs.map fun p => kV p.1) (ds.map (·.1))
  | _, _, .nil => .nil
  | _, _, .int _ b => .cons (.int _) (DM.keys b)
  | _, _, .str _ b => .cons (.str _) (DM.keys b)
theorem DM.vals : ∀ {vs : List (Key × V)} {ds : KVM}, DM K F vs ds → DRs K F (vs.map (·.2)) (ds.map (·.2))
  | _, _, .nil => .nil
  | _, _, .int a b => .cons a (DM.vals b)
  | _, _, .str a b => .cons a (DM.vals b)
end
/-- it is a dict: no row, no refusal -/
def isMap : KVM → Bool
  | (.none, _) :: _ => false
  | _ => true
def keyQ (y : PyData) (K : Key → Prop) : Prop := match kyOf y with
  | some k => K k
  | none => False
def pickM (ds : KVM) (k : Key) (P : PyData → Prop) : Prop := match atM ds k with
  | some d => P d
  | none => False
def oIxM (x y : PyData) (P : PyData → Prop) : Prop := match x with
  | .dict ds => isMap ds = true ∧ keyQ y fun k => pickM ds k P
  | x => oIx x y P
section
variable {X : Cx} {K : PySem.W.Frag}
end
section
variable {X : Cx} {a b e : Expr} {es : List Expr} {wa wb we : DE} {was : DA} {pos p : Pos}
end
section
variable {X : Cx} {a b e : Expr} {es : List Expr} {wa wb we : DE} {was : DA} {pos p : Pos} {K : PySem.W.Frag}
end
end DL

namespace DL
variable {T : List (PySem.Addr × PySem.Str)} {Z : Zx T}
open PySem PySem.Spec PyProof.Rows L2 PySem.W
open Evl (Ex)
section
variable {X : Cx} {o e f : Expr} {es : List Expr} {wo we wf : DE} {was : DA} {apos cpos pos p : Pos} {K : PySem.W.Frag}
/-- a list's, a tuple's items, a text's signs, a dict's keys -/
def itemsM (d : PyData) (K : List PyData → Prop) : Prop := match d with
  | .dict ds => isMap ds = true ∧ At (ds.map (·.1)) K
  | d => itemsQ d K
end
end DL

namespace DL
variable {T : List (PySem.Addr × PySem.Str)} {Z : Zx T}
open PySem PySem.Spec PyProof.Rows L2 PySem.W
open Evl (Ex)
theorem codeO_kk {P : Program} {w : World} {a : Addr} {vs : List (Key × V)} {q : Str} : KkE P w a vs ≠ LamX.CodeO a q := fun z => by
  unfold KkE LamX.CodeO at z
  injection z with z
  have e : (({ objs := Array.replicate a { cls := .none, data := .plain } } : Heap).push { cls := .none, data := .fields #[.none, .str q 0] }).get? a = some { cls := .none, data := .fields #[.none, .str q 0] } := by
    have := Heap.get?_push_size { objs := Array.replicate a { cls := .none, data := .plain } } (o := { cls := .none, data := .fields #[.none, .str q 0] }) rfl
    simpa using this
  have y := (congrFun z (({ objs := Array.replicate a { cls := .none, data := .plain } } : Heap).push { cls := .none, data := .fields #[.none, .str q 0] })).mpr ⟨_, _, 0, e, rfl, rfl⟩
  obtain ⟨_, _, us, _, o, es, ep, e1, _, e2, _⟩ := y
  rw [e] at e1
  cases e1
  cases e2
theorem codeO_ls {a : Addr} {vs : List V} {q : Str} : LsE a vs ≠ LamX.CodeO a q := fun z => by
  unfold LsE LamX.CodeO at z
  injection z with z
  have e : (({ objs := Array.replicate a { cls := .none, data := .plain } } : Heap).push { cls := .none, data := .fields #[.none, .str q 0] }).get? a = some { cls := .none, data := .fields #[.none, .str q 0] } := by
    have := Heap.get?_push_size { objs := Array.replicate a { cls := .none, data := .plain } } (o := { cls := .none, data := .fields #[.none, .str q 0] }) rfl
    simpa using this
  have y := (congrFun z (({ objs := Array.replicate a { cls := .none, data := .plain } } : Heap).push { cls := .none, data := .fields #[.none, .str q 0] })).mpr ⟨_, _, 0, e, rfl, rfl⟩
  obtain ⟨_, its, n, _, e1⟩ := y
  rw [e] at e1
  cases e1
/-- the own thing at x is told as it is; a dict is known -/
def ToldO (P : Program) (w : World) (od : Addr → Obj) (x : Addr) (o o' : HO) : Prop := (∃ vs, o = KkE P w x vs ∧ o' = .frz (od x) (.dK vs)) ∨ ∃ vs, o = LsE x vs ∧ o' = .lst vs
def RcO (P : Program) (w : World) (od : Addr → Obj) (H H' : Hp) : Prop := ∀ x, H' x = H x ∨ ∃ o o', H x = some o ∧ H' x = some o' ∧ ToldO P w od x o o'
section
variable {X : Cx} {pins : List (Addr × Obj)} {σ : L2.St} {H H' : Hp} {s : Shared} {od : Addr → Obj}
theorem RcO.none (r : RcO X.prog X.w od H H') {x : Addr} : H' x = Option.none ↔ H x = Option.none := by
  rcases r x with e | ⟨o, o', e1, e2, _⟩
  · rw [e]
  · rw [e1, e2]; simp
theorem RcO.own (r : RcO X.prog X.w od H H') {x : Addr} {o : HO} (n1 : ∀ φ, o ≠ .ext φ) (n2 : ∀ ob u, o ≠ .frz ob u) (n3 : ∀ vs, o ≠ .lst vs) : H' x = some o ↔ H x = some o := by
  rcases r x with e | ⟨p, p', e1, e2, t⟩
  · rw [e]
  · rw [e1, e2]
    rcases t with ⟨vs, rfl, rfl⟩ | ⟨vs, rfl, rfl⟩
    · exact ⟨fun z => absurd (Option.some.inj z).symm (n2 _ _), fun z => absurd (Option.some.inj z).symm (n1 _)⟩
    · exact ⟨fun z => absurd (Option.some.inj z).symm (n3 _), fun z => absurd (Option.some.inj z).symm (n1 _)⟩
theorem _root_.L2.Inv.told (I : Inv X pins σ H s) (r : RcO X.prog X.w od H H') (ho : ∀ x ob, s.heap.get? x = some ob → od x = ob) : Inv X pins σ H' s where
  ok := I.ok
  os := I.os
  bare := I.bare
  base := ⟨I.base.keep, I.base.slot, fun b o e1 e2 e3 => r.none.mpr (I.base.free b o e1 e2 e3), I.base.there, fun b xs e => (r.own (fun _ z => by cases z) (fun _ _ z => by cases z) (fun _ z => by cases z)).mpr (I.base.tups b xs e),
    (fun b o u e => by
      have z := I.base.frzs b o u e
      rcases r b with y | ⟨p, p', e1, e2, t⟩
      · rw [y]; exact z
      · rw [z] at e1
        cases e1
        rcases t with ⟨vs, t, _⟩ | ⟨vs, t, _⟩ <;> cases t),
    fun b ps e => by
      obtain ⟨more, z⟩ := I.base.tbls b ps e
      exact ⟨more, (r.own (fun _ z => by cases z) (fun _ _ z => by cases z) (fun _ z => by cases z)).mpr z⟩⟩
  loc := I.loc
  cell := I.cell
  free := r.none.mpr I.free
  freeC := fun x c e => r.none.mpr (I.freeC x c e)
  pin := fun p hp => let ⟨z1, z2, z3⟩ := I.pin p hp; ⟨z1, r.none.mpr z2, z3⟩
  hok := fun a o e => by
    rcases r a with y | ⟨p, p', e1, e2, t⟩
    · rw [y] at e
      exact (I.hok a o e).stay (fun _ _ _ q => q) (fun b q => (r.own (fun _ z => by cases z) (fun _ _ z => by cases z) (fun _ z => by cases z)).mpr q) fun b xs q => (r.own (fun _ z => by cases z) (fun _ _ z => by cases z) (fun _ z => by cases z)).mpr q
    · rw [e2] at e
      cases e
      have x := I.hok a _ e1
      rcases t with ⟨vs, rfl, rfl⟩ | ⟨vs, rfl, rfl⟩
      · obtain ⟨⟨z1, z2, us, z3, z4⟩, ⟨ob, eo⟩, _⟩ := x
        refine ⟨by rw [ho a ob eo]; exact eo, z1, z2, us, z3, z4⟩
      · exact x.1
  len := I.len
end
end DL

namespace DL
variable {T : List (PySem.Addr × PySem.Str)} {Z : Zx T}
open PySem PySem.Spec PyProof.Rows L2 PySem.W
open Evl (Ex)
section
variable {X : Cx} {pins : List (Addr × Obj)} {σ : L2.St} {H : Hp} {s : Shared} {a : Addr} {vs : List (Key × V)}
end
section
variable {K : PySem.W.Frag} {g : Gx Z} {F : Hp} {env : List SD} {σ : L2.St} {H : Hp}
end
section
variable {X : Cx} {e b : Expr} {es : List Expr} {we wb : DE} {was : DA} {m : Nat} {p pos : Pos} {sts : List Stmt}
end
end DL

namespace DL
variable {T : List (PySem.Addr × PySem.Str)} {Z : Zx T}
open PySem PySem.Spec PyProof.Rows L2 PySem.W
open Evl (Ex)
/-- what the thing at x is told as -/
def TVal (K : PySem.W.Frag) (Z : Zx T) (F H : Hp) (env : List SD) (σ : L2.St) (B : Nat → List Addr) (x : Addr) (f : Obj → HO) : Prop :=
  (∃ (i : Nat) (ds : KVM) (vs : List (Key × V)), env[i]? = some (.dic (.kk ds)) ∧ σ[i]? = some (some (.ref x)) ∧ H x = some (KkE Z.P Z.w x vs) ∧ DM K F vs ds ∧ f = fun o => .frz o (.dK vs)) ∨
  (∃ (i : Nat) (rows : List (List PyData)), env[i]? = some (.dic (.mt rows)) ∧ σ[i]? = some (some (.ref x)) ∧ H x = some (LsE x ((B i).map .ref)) ∧ f = fun _ => .lst ((B i).map .ref)) ∨
  ∃ (i : Nat) (rows : List (List PyData)) (a : Addr) (j : Nat) (vs : List V) (row : List PyData), env[i]? = some (.dic (.mt rows)) ∧ σ[i]? = some (some (.ref a)) ∧ (B i)[j]? = some x ∧ rows[j]? = some row ∧ H x = some (LsE x vs) ∧ DRs K F vs row ∧ f = fun _ => .lst vs
theorem nodupG {α : Type} {l : List α} (h : l.Nodup) {i j : Nat} {x : α} (e1 : l[i]? = some x) (e2 : l[j]? = some x) : i = j := by
  obtain ⟨h1, e1⟩ := List.getElem?_eq_some_iff.mp e1
  obtain ⟨h2, e2⟩ := List.getElem?_eq_some_iff.mp e2
  have pw := List.pairwise_iff_getElem.mp h
  rcases Nat.lt_trichotomy i j with z | z | z
  · exact absurd (e1.trans e2.symm) (pw i j h1 h2 z)
  · exact z
  · exact absurd (e2.trans e1.symm) (pw j i h2 h1 z)
section
variable {K : PySem.W.Frag} {g : Gx Z} {F : Hp} {env : List SD} {σ : L2.St} {H : Hp} {B : Nat → List Addr}
theorem TVal.out (db : DicsB K g F env σ H B) {x : Addr} {f : Obj → HO} (t : TVal K Z F H env σ B x f) : F x = none ∧ g.H0 x = none ∧ ∃ o, H x = some o ∧ (∃ φ, o = .ext φ) ∧ (∀ q, o ≠ LamX.CodeO x q) ∧ ∀ (od : Addr → Obj), ToldO Z.P Z.w od x o (f (od x)) := by
  rcases t with ⟨i, ds, vs, e1, e2, e3, e4, rfl⟩ | ⟨i, rows, e1, e2, e3, rfl⟩ | ⟨i, rows, a, j, vs, row, e1, e2, e3, e4, e5, e6, rfl⟩
  · obtain ⟨f1, f2, _⟩ := db.there e1 e2 List.mem_cons_self
    exact ⟨f1, f2, _, e3, ⟨_, rfl⟩, fun _ => codeO_kk, fun od => .inl ⟨vs, rfl, rfl⟩⟩
  · obtain ⟨f1, f2, _⟩ := db.there e1 e2 List.mem_cons_self
    exact ⟨f1, f2, _, e3, ⟨_, rfl⟩, fun _ => codeO_ls, fun od => .inr ⟨_, rfl, rfl⟩⟩
  · obtain ⟨f1, f2, _⟩ := db.there e1 e2 (List.mem_cons_of_mem _ (List.mem_of_getElem? e3))
    exact ⟨f1, f2, _, e5, ⟨_, rfl⟩, fun _ => codeO_ls, fun od => .inr ⟨_, rfl, rfl⟩⟩
/-- two places of one's own things are one slot's -/
theorem DicsB.one (db : DicsB K g F env σ H B) {i j : Nat} {w w' : Own} {a b x : Addr} (e1 : env[i]? = some (.dic w)) (e2 : env[j]? = some (.dic w')) (s1 : σ[i]? = some (some (.ref a))) (s2 : σ[j]? = some (some (.ref b))) (h1 : x ∈ a :: B i) (h2 : x ∈ b :: B j) : i = j := by
  by_cases n : i = j
  · exact n
  · exact absurd h2 (db.sep i j w w' a b e1 e2 s1 s2 n x h1)
theorem TVal.kk (db : DicsB K g F env σ H B) {i : Nat} {ds : KVM} {x : Addr} {f : Obj → HO} (t : TVal K Z F H env σ B x f) (e : env[i]? = some (.dic (.kk ds))) (s : σ[i]? = some (some (.ref x))) : ∃ vs, DM K F vs ds ∧ f = fun o => .frz o (.dK vs) := by
  rcases t with ⟨i', ds', vs, e1, e2, e3, e4, rfl⟩ | ⟨i', rows, e1, e2, e3, rfl⟩ | ⟨i', rows, a, j, vs, row, e1, e2, e3, e4, e5, e6, rfl⟩
  · have := db.one e e1 s e2 List.mem_cons_self List.mem_cons_self
    subst this
    rw [e] at e1
    cases e1
    exact ⟨vs, e4, rfl⟩
  · have := db.one e e1 s e2 List.mem_cons_self List.mem_cons_self
    subst this
    rw [e] at e1
    cases e1
  · have := db.one e e1 s e2 List.mem_cons_self (List.mem_cons_of_mem _ (List.mem_of_getElem? e3))
    subst this
    rw [e] at e1
    cases e1
theorem TVal.mt (db : DicsB K g F env σ H B) {i : Nat} {rows : List (List PyData)} {x : Addr} {f : Obj → HO} (t : TVal K Z F H env σ B x f) (e : env[i]? = some (.dic (.mt rows))) (s : σ[i]? = some (some (.ref x))) : f = fun _ => .lst ((B i).map .ref) := by
  rcases t with ⟨i', ds', vs, e1, e2, e3, e4, rfl⟩ | ⟨i', rows', e1, e2, e3, rfl⟩ | ⟨i', rows', a, j, vs, row, e1, e2, e3, e4, e5, e6, rfl⟩
  · have := db.one e e1 s e2 List.mem_cons_self List.mem_cons_self
    subst this
    rw [e] at e1
    cases e1
  · have := db.one e e1 s e2 List.mem_cons_self List.mem_cons_self
    subst this
    rfl
  · have := db.one e e1 s e2 List.mem_cons_self (List.mem_cons_of_mem _ (List.mem_of_getElem? e3))
    subst this
    obtain ⟨c, y1, y2⟩ := db.at_ i _ e
    rw [s] at y1
    cases y1
    exact absurd (List.mem_of_getElem? e3) (List.nodup_cons.mp y2.rel.1.2).1
theorem TVal.row (db : DicsB K g F env σ H B) {i j : Nat} {rows : List (List PyData)} {row : List PyData} {a x : Addr} {f : Obj → HO} (t : TVal K Z F H env σ B x f) (e : env[i]? = some (.dic (.mt rows))) (s : σ[i]? = some (some (.ref a))) (hx : (B i)[j]? = some x) (hr : rows[j]? = some row) : ∃ vs, DRs K F vs row ∧ f = fun _ => .lst vs := by
  have mx : x ∈ a :: B i := List.mem_cons_of_mem _ (List.mem_of_getElem? hx)
  obtain ⟨c, y1, y2⟩ := db.at_ i _ e
  rw [s] at y1
  cases y1
  have nd := List.nodup_cons.mp y2.rel.1.2
  rcases t with ⟨i', ds', vs, e1, e2, e3, e4, rfl⟩ | ⟨i', rows', e1, e2, e3, rfl⟩ | ⟨i', rows', a', j', vs, row', e1, e2, e3, e4, e5, e6, rfl⟩
  · have := db.one e e1 s e2 mx List.mem_cons_self
    subst this
    rw [e] at e1
    cases e1
  · have := db.one e e1 s e2 mx List.mem_cons_self
    subst this
    rw [s] at e2
    cases e2
    exact absurd (List.mem_of_getElem? hx) nd.1
  · have := db.one e e1 s e2 mx (List.mem_cons_of_mem _ (List.mem_of_getElem? e3))
    subst this
    rw [e] at e1
    cases e1
    have := nodupG nd.2 hx e3
    subst this
    rw [hr] at e4
    cases e4
    exact ⟨vs, e6, rfl⟩
end
section
variable {X : Cx} {e : Expr}
end
end DL

namespace DL
variable {T : List (PySem.Addr × PySem.Str)} {Z : Zx T}
open PySem PySem.Spec PyProof.Rows L2 PySem.W
open Evl (Ex)
section
variable {X : Cx} {pins : List (Addr × Obj)} {σ : L2.St} {H : Hp} {s : Shared} {a : Addr} {vs : List V}
end
section
variable {X : Cx} {e : Expr} {st : Stmt}
end
section
variable {K : PySem.W.Frag} {g : Gx Z} {F : Hp} {env : List SD} {σ : L2.St} {H : Hp}
theorem Paired.setR {α β : Type} {R : α → β → Prop} {xs : List α} {ys : List β} (h : Paired R xs ys) : ∀ {j : Nat} {y : β}, (∀ x, xs[j]? = some x → R x y) → Paired R xs (ys.set j y) := by
  induction h with
  | nil => intro j y _; exact .nil
  | cons r t ih =>
    intro j y hy
    cases j with
    | zero => exact .cons (hy _ rfl) t
    | succ j => exact .cons r (ih fun x hx => hy x (by simpa using hx))
end
end DL

namespace DL
variable {T : List (PySem.Addr × PySem.Str)} {Z : Zx T}
open PySem PySem.Spec PyProof.Rows L2 PySem.W
open Evl (Ex)
section
variable {X : Cx} {e b : Expr} {es : List Expr} {we wb : DE} {m : Nat} {p pos : Pos} {sts : List Stmt} {st : Stmt}
end
end DL

namespace DL
variable {T : List (PySem.Addr × PySem.Str)} {Z : Zx T}
open PySem PySem.Spec PyProof.Rows L2 PySem.W
open Evl (Ex)
section
variable {K : PySem.W.Frag} {g : Gx Z} {F F' : Hp} {env env' : List SD} {σ : L2.St} {H H' : Hp} {B : Nat → List Addr}
theorem DicsB.sub (d : DicsB K g F env σ H B) (h : ∀ (i : Nat) (w : Own), env'[i]? = some (.dic w) → env[i]? = some (.dic w)) : DicsB K g F env' σ H B :=
  ⟨fun i w e => d.at_ i w (h i w e), fun i j w w' a b e1 e2 => d.sep i j w w' a b (h i w e1) (h j w' e2)⟩
theorem wipe_up {vs : List Nat} {i : Nat} {v : V} (e : (wipe σ vs)[i]? = some (some v)) : σ[i]? = some (some v) := by
  rw [wipe_get] at e
  by_cases hj : i ∈ vs
  · rw [if_pos hj] at e
    cases q : σ[i]? with
    | none => rw [q] at e; cases e
    | some o => rw [q] at e; cases e
  · rw [if_neg hj] at e
    exact e
theorem DicsB.unwiped {vs : List Nat} (d : DicsB K g F env (wipe σ vs) H B) : DicsB K g F env σ H B :=
  ⟨fun i w e => let ⟨a, h1, h2⟩ := d.at_ i w e; ⟨a, wipe_up h1, h2⟩, fun i j w w' a b e1 e2 s1 s2 => by
    obtain ⟨a', y1, _⟩ := d.at_ i w e1
    obtain ⟨b', y2, _⟩ := d.at_ j w' e2
    have z1 := wipe_up y1
    have z2 := wipe_up y2
    rw [s1] at z1
    rw [s2] at z2
    cases z1
    cases z2
    exact d.sep i j w w' a b e1 e2 y1 y2⟩
end
section
variable {X : Cx} {tg iter : Expr} {scope : Scope} {own : List (Str × Nat)} {pos p2 : Pos} {wi : DI} {m : Nat}
end
end DL

namespace DL
variable {T : List (PySem.Addr × PySem.Str)} {Z : Zx T}
open PySem PySem.Spec PyProof.Rows L2
open Evl (Ex)
section
variable {X : Cx} {K : PySem.W.Frag}
end
section
variable {P : Program} {w : World} {K : PySem.W.Frag} {mg : Str → Option Value} {base : Heap}
end
end DL

namespace DL
variable {T : List (PySem.Addr × PySem.Str)} {Z : Zx T}
open PySem PySem.Spec PyProof.Rows L2
open Evl (Ex)
section
variable {X : Cx}
end
section
variable {X : Cx} {a : Expr} {wa : DE} {p pos p1 kp : Pos} {nm : Option Str} {j : Nat}
end
end DL

namespace DL
variable {T : List (PySem.Addr × PySem.Str)} {Z : Zx T}
open PySem PySem.Spec PyProof.Rows L2
open Evl (Ex)
section
variable {X : Cx} {e : Expr}
end
end DL

namespace DL
variable {T : List (PySem.Addr × PySem.Str)} {Z : Zx T}
open PySem PySem.Spec PyProof.Rows L2
open Evl (Ex)
section
variable {X : Cx} {a : Expr} {wa : DE} {pos p p2 pos2 : Pos}
end
end DL

namespace DL
variable {T : List (PySem.Addr × PySem.Str)} {Z : Zx T}
open PySem PySem.Spec PySem.W PySem.Calls PyProof.Rows L2
open Evl (Ex)
section
variable {prog : Program} {w : World} {A : Around} {E : Value → Shared → Prop} {s : Shared}
end
section
variable {X : Cx}
end
section
variable {X : Cx} {a : Expr} {wa : DE} {p pos p1 kp : Pos} {nm : Option Str} {j : Nat}
end
end DL

namespace DL
variable {T : List (PySem.Addr × PySem.Str)} {Z : Zx T}
open PySem PySem.Spec PyProof.Rows L2 PySem.W
open Evl (Ex)
section
variable {X : Cx}
end
section
variable {X : Cx} {a : Expr} {wa : DE} {p pos : Pos}
end
end DL

namespace DL
variable {T : List (PySem.Addr × PySem.Str)} {Z : Zx T}
open PySem PySem.Spec PyProof.Rows L2 PySem.W
open Evl (Ex)
/-- a def of the top that returns a key of its one parameter -/
structure KeyD (K : PySem.W.Frag) (mg : Str → Option Value) (y : Str) (kb : Kx) : Prop where
  ex : ∃ (qual x : Str) (st : Stmt) (fd : FuncData) (e : Expr) (pos : Pos), Fun K qual qual st (He.ga K y) fd ∧ LamK (defScope st) x ∧ defBody st = [.Return (some e) pos] ∧ KbE x e kb ∧ Binds K fd [x] [] ∧ (x == ("__debug__" : Str)) = false
  glo : mg y = some (.ref (He.ga K y))
section
variable {X : Cx} {pins : List (Addr × Obj)} {σ : L2.St} {H : Hp} {s : Shared}
end
section
variable {X : Cx} {a : Expr} {wa : DE} {p pos kpos p2 : Pos} {y : Str}
end
end DL

namespace DL
variable {T : List (PySem.Addr × PySem.Str)} {Z : Zx T}
open PySem PySem.Spec PyProof.Rows L2 PySem.W
open Evl (Ex)
section
variable {X : Cx}
end
section
variable {X : Cx} {x : Str} {p p0 pos apos cpos : Pos}
end
end DL

namespace DL
variable {T : List (PySem.Addr × PySem.Str)} {Z : Zx T}
open PySem PySem.Spec PyProof.Rows L2 PySem.W
open Evl (Ex)
end DL

namespace RZ3
open PySem RZ
open PySem.Sem (wp)
theorem typeCall_zip_3 (a b c : Value) : checkTypeCall "zip" ⟨[a, b, c], []⟩ = pure () := by kernel_rfl
theorem newCall_zip_3 (a b c : Value) : checkBuiltinCall "zip.__new__" ⟨[.type "zip", a, b, c], []⟩ = pure () := by kernel_rfl
theorem args_object_init_4 (a b c d : Value) : argsOk "object.__init__" ⟨[a, b, c, d], []⟩ := by
  unfold argsOk; rw [signature?_of (id := "object.__init__") (n := ['_', '_', 't', 'i', 'n', 'i', '_', '_']) (o := ['t', 'c', 'e', 'j', 'b', 'o']) (by kernel_rfl) F.owner_object]; kernel_rfl
abbrev IsTrip (h : Heap) (T : Addr) (a b c : Value) : Prop := h.get? T = some { cls := .type "tuple", data := .seq #[a, b, c] }
structure Apart (z TI TO i1 i2 i3 l1 l2 l3 : Addr) : Prop where
  TI_z : TI ≠ z
  TO_z : TO ≠ z
  i1_z : i1 ≠ z
  i2_z : i2 ≠ z
  i3_z : i3 ≠ z
  TI_TO : TI ≠ TO
  TI_i1 : TI ≠ i1
  TI_i2 : TI ≠ i2
  TI_i3 : TI ≠ i3
  TO_i1 : TO ≠ i1
  TO_i2 : TO ≠ i2
  TO_i3 : TO ≠ i3
  i1_i2 : i1 ≠ i2
  i1_i3 : i1 ≠ i3
  i2_i3 : i2 ≠ i3
  l1_z : l1 ≠ z
  l1_TO : l1 ≠ TO
  l1_i1 : l1 ≠ i1
  l1_i2 : l1 ≠ i2
  l1_i3 : l1 ≠ i3
  l2_z : l2 ≠ z
  l2_TO : l2 ≠ TO
  l2_i1 : l2 ≠ i1
  l2_i2 : l2 ≠ i2
  l2_i3 : l2 ≠ i3
  l3_z : l3 ≠ z
  l3_TO : l3 ≠ TO
  l3_i1 : l3 ≠ i1
  l3_i2 : l3 ≠ i2
  l3_i3 : l3 ≠ i3
section
variable {prog : Program} {w : World} {A : Around} {E : Value → Shared → Prop} {s : Shared}
theorem wpAny_updateSeq_trip {T : Addr} {a b c x : Value} {k : Nat} {Q : Unit → Shared → Prop} (hT : IsTrip s.heap T a b c)
    (h : ∀ h', h'.get? T = some { cls := .type "tuple", data := .seq ((#[a, b, c] : Array Value).setIfInBounds k x) } → Heap.SameBut T s.heap h' → Q () { s with heap := h' }) :
    wpAny (model prog w) A (updateSeq T (·.setIfInBounds k x)) Q E s := by
  refine wpAny_updateSeq hT rfl (h _ ?_ (Heap.SameBut.update ..))
  rw [Heap.get?_update_self _ hT rfl]
  simp [Obj.mapSeq]
end
section
variable {prog : Program} {w : World} {A : Around} {E : Value → Shared → Prop} {s : Shared}
end
end RZ3

namespace DL
variable {T : List (PySem.Addr × PySem.Str)} {Z : Zx T}
open PySem PySem.Spec PyProof.Rows L2 RZ3
open Evl (Ex)
section
variable {X : Cx} {a b c : Expr} {was : DA} {pos : Pos}
end
end DL

namespace DL
variable {T : List (PySem.Addr × PySem.Str)} {Z : Zx T}
open PySem PySem.Spec PyProof.Rows L2
open Evl (Ex)
section
variable {X : Cx} {a b c : Expr} {was : DA} {pos : Pos}
end
end DL

namespace DL
variable {T : List (PySem.Addr × PySem.Str)} {Z : Zx T}
open PySem PySem.Spec PyProof.Rows L2 PySem.W
open Evl (Ex)
section
variable {H : Hp} {p a : Addr} {o : HO}
end
section
variable {K : PySem.W.Frag} {g : Gx Z} {F : Hp} {env : List SD} {σ : L2.St} {H : Hp}
end
abbrev DPs := List SD → (List (Key × PyData) → List SD → Prop) → Prop
abbrev PrR (K : PySem.W.Frag) (F : Hp) : List (Key × PyData) → List (Key × V) → Prop := Paired fun p u => p.1 = u.1 ∧ DR K F u.2 p.2
theorem PrR.mono {K : PySem.W.Frag} {F F' : Hp} (e : Ex F F') {ps : List (Key × PyData)} {us : List (Key × V)} (h : PrR K F ps us) : PrR K F' ps us := Paired.mapP h fun _ _ ⟨h1, h2⟩ => ⟨h1, h2.mono e⟩
def liftPs (K : PySem.W.Frag) (Z : Zx T) (n : Nat) (w : DPs) (trs : List (TE × TE)) : Prop := ∀ (σ : L2.St) (H : Hp) (Q : List (V × V) → Hp → Prop),
  (∃ (g : Gx Z) (F : Hp) (env : List SD) (P : List (Key × PyData) → List SD → Prop), Ok K g F env σ H ∧ w env P ∧
    ∀ ps env' F' H' us, P ps env' → Ex F F' → Ok K g F' env' σ H' → PrR K F' ps us → us.length = n → Q (us.map fun kv => (kV kv.1, kv.2)) H') → tPairs trs σ H Q
def PP (X : Cx) (Z : Zx T) (pos : Pos) (keys : List (Option Expr)) (values : List Expr) (w : DPs) : Prop := ∃ trs, PPs X pos keys values trs ∧ liftPs X.K Z keys.length w trs
section
variable {X : Cx} {pos : Pos} {k v : Expr} {ks : List (Option Expr)} {vs : List Expr} {wk wv : DE} {w : DPs}
end
section
variable {X : Cx} {o e : Expr} {apos cpos : Pos} {td ty : TE}
end
section
variable {X : Cx} {e : Expr} {m : Nat} {pos : Pos}
end
end DL

namespace DL
variable {T : List (PySem.Addr × PySem.Str)} {Z : Zx T}
open PySem PySem.Spec PyProof.Rows L2 PySem.W
open Evl (Ex)
open PySem.SeqAt in
section
end
section
variable {X : Cx} {a b : Expr} {wa wb : DE} {pos : Pos} {K : PySem.W.Frag}
end
end DL

namespace DL
variable {T : List (PySem.Addr × PySem.Str)} {Z : Zx T}
open PySem PySem.Spec PyProof.Rows L2 PySem.W
open Evl (Ex)
section
variable {K : PySem.W.Frag} {g : Gx Z} {F : Hp} {env : List SD} {σ : L2.St} {H : Hp}
end
section
variable {X : Cx} {m : Nat} {pos : Pos}
end
end DL

namespace DL
variable {T : List (PySem.Addr × PySem.Str)} {Z : Zx T}
open PySem PySem.Spec PyProof.Rows L2 PySem.W
open Evl (Ex)
section
variable {X : Cx} {e : Expr} {es : List Expr} {pos p : Pos} {was : DA} {K : PySem.W.Frag}
end
end DL

namespace DL
variable {T : List (PySem.Addr × PySem.Str)} {Z : Zx T}
open PySem PySem.Spec PyProof.Rows L2 PySem.W
open Evl (Ex)
section
variable {X : Cx} {tg iter : Expr} {scope : Scope} {own : List (Str × Nat)} {pos p2 : Pos} {wi : DI} {m : Nat}
end
section
variable {X : Cx} {e : Expr} {m : Nat} {pos : Pos}
end
end DL

namespace DL
variable {T : List (PySem.Addr × PySem.Str)} {Z : Zx T}
open PySem PySem.Spec PyProof.Rows L2
open Evl (Ex)
section
variable {P : Program} {w : World} {A : Around} {E : Value → Shared → Prop} {s : Shared}
end
section
variable {X : Cx} {a : Expr} {wa : DE} {p p2 pos pos2 : Pos}
end
end DL

namespace RZ3A
open PySem RZ
open PySem.Sem (wp)
open RZ3 (typeCall_zip_3 newCall_zip_3 args_object_init_4 IsTrip Apart wpAny_updateSeq_trip)
/-- a list or a tuple, and its iterator -/
def SqA (b : Bool) (h : Heap) (l : Addr) (xs : Array Value) : Prop := match b with
  | true => h.IsList l xs
  | false => h.IsTuple l xs
def ItA (b : Bool) (h : Heap) (i l : Addr) (k : Nat) : Prop := match b with
  | true => h.IsListIter i l k
  | false => h.IsTupleIter i l k
theorem SqA.extBut {b : Bool} {h h' : Heap} {a c : Addr} {items : Array Value} (x : SqA b h a items) (hs : Heap.ExtBut c h h') (hab : a ≠ c) : SqA b h' a items := by
  cases b with
  | true => exact Heap.IsList.extBut x hs hab
  | false => exact Heap.IsTuple.extBut x hs hab
theorem SqA.push {b : Bool} {h : Heap} {a : Addr} {items : Array Value} (x : SqA b h a items) (o : Obj) : SqA b (h.push o) a items := by
  cases b with
  | true => exact Heap.IsList.push x o
  | false => exact Heap.IsTuple.push x o
theorem ItA.extBut {b : Bool} {h h' : Heap} {a c l : Addr} {i : Nat} (x : ItA b h a l i) (hs : Heap.ExtBut c h h') (hab : a ≠ c) : ItA b h' a l i := by
  cases b with
  | true => exact Heap.IsListIter.extBut x hs hab
  | false => exact Heap.IsTupleIter.extBut x hs hab
theorem ItA.at {b : Bool} {h h' : Heap} {a l : Addr} {i : Nat} (x : ItA b h a l i) (e : ∀ o, h.get? a = some o → h'.get? a = some o) : ItA b h' a l i := by
  cases b with
  | true => exact Heap.IsListIter.at x e
  | false => exact Heap.IsTupleIter.at x e
theorem ItA.obj {b : Bool} {h : Heap} {a l : Addr} {i : Nat} (x : ItA b h a l i) : ∃ o, h.get? a = some o ∧ o.data = .fields #[.ref l, .int i 0] := by
  cases b with
  | true => obtain ⟨o, h1, _, h2⟩ := x; exact ⟨o, h1, h2⟩
  | false => obtain ⟨o, h1, _, h2⟩ := x; exact ⟨o, h1, h2⟩
theorem SqA.obj {b : Bool} {h : Heap} {a : Addr} {xs : Array Value} (x : SqA b h a xs) : ∃ o, h.get? a = some o := by
  cases b with
  | true => obtain ⟨o, h1, _⟩ := x; exact ⟨o, h1⟩
  | false => obtain ⟨o, h1, _⟩ := x; exact ⟨o, h1⟩
section
variable {prog : Program} {w : World} {A : Around} {E : Value → Shared → Prop} {s : Shared}
end
section
variable {prog : Program} {w : World} {A : Around} {E : Value → Shared → Prop} {s : Shared}
end
end RZ3A

namespace DL
variable {T : List (PySem.Addr × PySem.Str)} {Z : Zx T}
open PySem PySem.Spec PyProof.Rows L2 RZ3A
open RZ3 (IsTrip Apart)
open Evl (Ex)
section
variable {X : Cx} {a b c : Expr} {was : DA} {pos : Pos}
end
end DL

namespace DL
variable {T : List (PySem.Addr × PySem.Str)} {Z : Zx T}
open PySem PySem.Spec PyProof.Rows L2
open Evl (Ex)
end DL

namespace DL
variable {T : List (PySem.Addr × PySem.Str)} {Z : Zx T}
open PySem PySem.Spec PyProof.Rows L2 PySem.W
open Evl (Ex)
section
variable {X : Cx} {a : Expr} {wa : DE} {p pos : Pos}
end
end DL

namespace DL
variable {T : List (PySem.Addr × PySem.Str)} {Z : Zx T}
open PySem PySem.Spec PyProof.Rows L2 PySem.W
open Evl (Ex)
section
variable {X : Cx} {e : Expr} {te : TE} {p apos cpos pos : Pos}
end
section
variable {K : PySem.W.Frag} {g : Gx Z} {env : List SD} {σ : L2.St}
end
section
variable {X : Cx} {a : Expr} {wa : DE} {p apos cpos pos : Pos}
end
end DL

namespace DL
variable {T : List (PySem.Addr × PySem.Str)} {Z : Zx T}
open PySem PySem.Spec PyProof.Rows L2 PySem.W
open Evl (Ex)
section
variable {X : Cx} {a b : Expr} {was : DA} {pos : Pos}
end
end DL

namespace DL
open PySem PySem.Spec PyProof.Rows L2
section
variable {K : PySem.W.Frag} {g : Addr → Option Obj} {n : Nat} {o : Option Obj}
theorem lamF_eq (ho : K.lookup mainGlobals = o) (hk : ∀ a, K.lookup a = kG g n a) (lam : List (Str × Str)) : lamG K g lam = lamF g n o lam := by
  unfold lamG lamF tabsOf
  have e1 : lamOne K g = fun p => match tabF g n o p.1 with
    | some (c, P) => codeHdF g n c P && isTab (g P)
    | none => false := funext fun p => by
    unfold lamOne
    rw [tabF_eq ho hk]
    cases tabF g n o p.1 with
    | none => rfl
    | some z =>
      obtain ⟨c, P⟩ := z
      dsimp only
      rw [codeHdF_eq hk]
  have e2 : (fun p : Str × Str => (PySem.W.tabIn K p.1).map fun z => (z.2, p.2)) = fun p => (tabF g n o p.1).map fun z => (z.2, p.2) := funext fun p => by rw [tabF_eq ho hk]
  rw [e1, e2]
  all_goals rfl
end
theorem obsF_ok {n : Nat} {fa : List He.Fa} {fn : List He.FnD} {fx : List Fx} {lam : List (Str × Str)} {g : Addr → Option Obj} (e : obsF n fa fn fx lam g = (He.valE fn, true, true, true)) :
    He.SaysE fa fn (kAll g n (hotX g n (kG g n mainGlobals) fx)) ∧ sysB g = true ∧ FxSays fx (kAll g n (hotX g n (kG g n mainGlobals) fx)) ∧ lamG (kAll g n (hotX g n (kG g n mainGlobals) fx)) g lam = true := by
  have e1 := congrArg (fun z : He.Al × Bool × Bool × Bool => z.1.1) e
  have e2 := congrArg (fun z : He.Al × Bool × Bool × Bool => z.1.2) e
  have e3 := congrArg (fun z : He.Al × Bool × Bool × Bool => z.2.1) e
  have e4 := congrArg (fun z : He.Al × Bool × Bool × Bool => z.2.2.1) e
  have e5 := congrArg (fun z : He.Al × Bool × Bool × Bool => z.2.2.2) e
  obtain ⟨f1, f2⟩ := He.ba (show (hotOk g n (hotX g n (kG g n mainGlobals) fx) && _) = true from e1)
  obtain ⟨f3, f4⟩ := He.ba f2
  have hk := kAll_look f1
  have ho := hk mainGlobals
  refine ⟨?_, e3, ?_, ?_⟩
  · unfold He.SaysE He.obsE He.valE
    have a1 : (fa.all fun f => f.ok (kAll g n (hotX g n (kG g n mainGlobals) fx))) = true := List.all_eq_true.mpr fun f hf => faF_ok ho hk (List.all_eq_true.mp f3 f hf)
    have a2 : (fn.all fun d => (He.Fa.code d.at_ d.qual).ok (kAll g n (hotX g n (kG g n mainGlobals) fx))) = true := List.all_eq_true.mpr fun d hd => by
      rw [dcF_eq ho hk]
      exact List.all_eq_true.mp f4 d hd
    have a3 : (fn.map fun d => He.fnObs (kAll g n (hotX g n (kG g n mainGlobals) fx)) d.at_) = fn.map He.FnD.val := by
      rw [show (fun d : He.FnD => He.fnObs (kAll g n (hotX g n (kG g n mainGlobals) fx)) d.at_) = dvF (kAll g n (hotX g n (kG g n mainGlobals) fx)) g n (kG g n mainGlobals) from funext fun d => dvF_eq ho hk d]
      exact e2
    rw [a1, a2, a3]
    rfl
  · exact List.all_eq_true.mpr fun f hf => fxF_ok ho hk (List.all_eq_true.mp e4 f hf)
  · rw [lamF_eq ho hk]
    exact e5
theorem lamG_saysF {n : Nat} {hot : List Addr} {lam : List (Str × Str)} {h : Heap} (ht : hotOk h.get? n hot = true) (e : lamG (kAll h.get? n hot) h.get? lam = true) : LamSays lam (kAll h.get? n hot) h := by
  obtain ⟨e1, e2⟩ := He.ba e
  refine ⟨fun p hp => ?_, fun p hp q hq => ?_⟩
  · have z := List.all_eq_true.mp e1 p hp
    unfold lamOne at z
    split at z
    · rename_i c P hc
      obtain ⟨z1, z2⟩ := He.ba z
      refine ⟨c, P, hc, PySem.W.codeHd_of_K He.frG_in z1, isTab_ok z2, ?_⟩
      rw [kAll_look ht]
      unfold kG
      cases Nat.blt P n with
      | false => rfl
      | true =>
        cases q : h.get? P with
        | none => rfl
        | some o =>
          rw [q] at z2
          simp [z2]
    · cases z
  · exact of_decide_eq_true (List.all_eq_true.mp (List.all_eq_true.mp e2 p hp) q hq)
theorem obsF_hot {n : Nat} {fa : List He.Fa} {fn : List He.FnD} {fx : List Fx} {lam : List (Str × Str)} {g : Addr → Option Obj} (e : obsF n fa fn fx lam g = (He.valE fn, true, true, true)) : hotOk g n (hotX g n (kG g n mainGlobals) fx) = true :=
  (He.ba (show (hotOk g n (hotX g n (kG g n mainGlobals) fx) && _) = true from congrArg (fun z : He.Al × Bool × Bool × Bool => z.1.1) e)).1
def hookF (n : Nat) (fa : List He.Fa) (fn : List He.FnD) (fx : List Fx) (lam : List (Str × Str)) : PySem.W.Hook where
  α := He.Al × Bool × Bool × Bool
  obs := fun s => obsF n fa fn fx lam s.heap.get?
  val := fun _ => (He.valE fn, true, true, true)
  says := fun _ h => (∃ K : PySem.W.Frag, K.In h ∧ He.SaysE fa fn K ∧ FxSays fx K ∧ LamSays lam K h) ∧ SysD h
  of := fun w s e => let x := obsF_ok e; ⟨⟨_, He.frG_in, x.1, x.2.2.1, lamG_saysF (obsF_hot e) x.2.2.2⟩, sysB_of x.2.1⟩
  keeps := fun w h h' ⟨⟨K, hK, c, cx, cl⟩, o, es, ep, e, d⟩ k => ⟨⟨K, PySem.W.Frag.In.keeps hK k, c, cx, cl.keeps k⟩, o, es, ep, k _ _ e, d⟩
theorem obsF_eq {n : Nat} {fa : List He.Fa} {fn : List He.FnD} {fx : List Fx} {lam : List (Str × Str)} {g : Addr → Option Obj} {s : Shared} (h : ∀ a, g a = s.heap.get? a) : obsF n fa fn fx lam g = (hookF n fa fn fx lam).obs s := by
  have e : g = s.heap.get? := funext h
  rw [e] <;> rfl
end DL

namespace DL
variable {T : List (PySem.Addr × PySem.Str)} {Z : Zx T}
open PySem PySem.Spec PyProof.Rows L2 PySem.W
open Evl (Ex)
section
variable {K : PySem.W.Frag} {F F1 F2 : Hp}
end
section
variable {K : PySem.W.Frag} {g : Gx Z} {F F2 : Hp} {env : List SD} {σ : L2.St} {H : Hp}
end
section
variable {X : Cx} {e : Expr}
end
end DL

namespace DL
open PySem PySem.Spec PyProof.Rows L2 HotX

section
variable {prog : Program} {w : World} {A : Around} {E : Value → Shared → Prop} {s : Shared}
end
end DL

namespace DL
variable {T : List (PySem.Addr × PySem.Str)} {Z : Zx T}
open PySem PySem.Spec PyProof.Rows L2 HotX
open Evl (Ex)
/-- the caught one, tracked -/
abbrev XC (C e : Addr) : HO := .ext (ExcAt C e)
/-- an iterator beside the caught one -/
def ItH (J : It) (C e : Addr) : It := ⟨fun i H => J.go i H ∧ H e = some (XC C e), fun i H x H' => J.yld i H x H' ∧ H' e = some (XC C e), fun i H => J.stop i H ∧ H e = some (XC C e)⟩
structure TurnH (P : Program) (w : World) (K : PySem.W.Frag) (tg : Expr) (J : It) (fp : List Addr) (it : Addr) (tn : Nat → Heap → Prop) (C e : Addr) : Prop where
  mem : it ∈ fp
  obj : ∀ i h, tn i h → ∀ b ∈ fp, ∃ o, h.get? b = some o ∧ ∀ v, o.data ≠ .cell v
  keep : ∀ i h h', tn i h → (∀ b ∈ fp, ∀ o, h.get? b = some o → h'.get? b = some o) → tn i h'
  item : ∀ (X : Cx), X.prog = P → X.w = w → X.K = K → ∀ (i : Nat) (pins : List (Addr × Obj)) (s : Shared) (σ : L2.St) (H : Hp) (E : Value → Shared → Prop), Inv X pins σ H s → (∀ b ∈ fp, FpOk X pins H b) → tn i s.heap → J.go i H →
    wpAny (model P w) X.A (pyNext (.ref it)) (fun r s1 => ∃ u, r = some u ∧
      wpAny (model P w) X.A (letOwnedTupleGo tg (.ref it) u) (fun _ s2 => ∃ x H', Inv X pins σ H' s2 ∧ RelV x u ∧ J.yld i H x H' ∧ tn (i + 1) s2.heap ∧ ∀ b ∈ fp, H' b = none) E s1) E s
  done : ∀ (X : Cx), X.prog = P → X.w = w → X.K = K → X.A.handled = some (.ref e) → ∀ (i : Nat) (pins : List (Addr × Obj)) (s : Shared) (σ : L2.St) (H : Hp) (E : Value → Shared → Prop), Inv X pins σ H s → (∀ b ∈ fp, FpOk X pins H b) → tn i s.heap → J.stop i H → H e = some (XC C e) →
    wpAny (model P w) X.A (pyNext (.ref it)) (fun r s1 => r = none ∧ Inv X pins σ H s1) E s
  self : ∀ (A : Around) (i : Nat) (s : Shared) (Q : Value → Shared → Prop) (E : Value → Shared → Prop), tn i s.heap → Q (.ref it) s → wpAny (model P w) A (pyIter (.ref it)) Q E s
  has : ∀ i H x H', J.yld i H x H' → H e = some (XC C e) → H' e = some (XC C e)
def PIEH (X : Cx) (pins : List (Addr × Obj)) (σ : L2.St) (tg : Expr) (R : It → Hp → Prop) (C e : Addr) (itv : Value) (s2 : Shared) : Prop :=
  ∃ (it : Addr) (fp : List Addr) (tn : Nat → Heap → Prop) (J : It) (H' : Hp), itv = .ref it ∧ Inv X pins σ H' s2 ∧ TurnH X.prog X.w X.K tg J fp it tn C e ∧ tn 0 s2.heap ∧ (∀ b ∈ fp, FpOk X pins H' b) ∧ R (ItH J C e) H'
structure PIH (X : Cx) (tg iter : Expr) (wi : TI) (C e : Addr) : Prop where
  run : ∀ (pins : List (Addr × Obj)) (s : Shared) (σ : L2.St) (H : Hp) (R : It → Hp → Prop), Inv X pins σ H s → wi σ H R →
    wpAny (model X.prog X.w) X.A (eval iter X.env) (fun v s1 => wpAny (model X.prog X.w) X.A (pyIter v) (PIEH X pins σ tg R C e) X.xe s1) X.xe s
structure PGH (X : Cx) (target : Expr) (t : TG) (C e : Addr) : Prop where
  run : ∀ (pins : List (Addr × Obj)) (s : Shared) (σ : L2.St) (H : Hp) (v : V) (u : Value) (Q : L2.St → Hp → Prop), Inv X pins σ H s → H e = some (XC C e) → RelV v u → t v σ H Q →
    wpAny (model X.prog X.w) X.A (assign target X.env u) (fun _ s' => ∃ σ' H', Inv X pins σ' H' s' ∧ Q σ' H') X.xe s
section
variable {X : Cx} {pins : List (Addr × Obj)} {σ : L2.St} {H : Hp} {s : Shared}
end
theorem WalkD.hot {K : PySem.W.Frag} {b : Bool} {F : Hp} {J : It} {items : List PyData} {C e : Addr} (w : WalkD K b F J items) (hF : F e = some (XC C e)) : WalkD K b F (ItH J C e) items := by
  obtain ⟨G, Y, wk, hG, hY⟩ := w
  exact ⟨fun H => G H ∧ H e = some (XC C e), Y, ⟨fun i H hi q => ⟨wk.goes i H hi q.1, q.2⟩, fun H q => ⟨wk.stops H q.1, q.2⟩, fun i H x H' hi q y => wk.yields i H x H' hi q.1 y.1⟩, fun H e => ⟨hG H e, e _ _ hF⟩, hY⟩
section
variable {X : Cx} {a b : Expr} {was : DA} {pos : Pos}
end
section
variable {X : Cx} {elt tg iter : Expr} {ifs : List Expr} {scope : Scope} {own : List (Str × Nat)} {pos : Pos} {wi : DI} {t : CT} {c : DT} {we : DE} {m : Nat} {I S : Type} {dec : List SD → Option (I × S)} {emb : I → S → List SD} {qb : PyData → I → S → (I → S → Prop) → (PyData → I → S → Prop) → Prop}
end
end DL

namespace DL
variable {T : List (PySem.Addr × PySem.Str)} {Z : Zx T}
open PySem PySem.Spec PyProof.Rows L2
open Evl (Ex)
section
variable {X : Cx} {m i : Nat} {pos pos' np : Pos} {n : Str} {body suite : List Stmt} {b₀ : Stmt} {wb : RD → DS} {ws : DS}
end
/-- the caught one is fixed at the call -/
def HotF (A : Around) (F : Hp) : Prop := ∃ e C, A.handled = some (.ref e) ∧ F e = some (XC C e)
def spDH (A : Around) (T : List (Addr × Str)) (K : PySem.W.Frag) (S : DSp) (vs : List V) (H : Hp) (Q : VK) : Prop := ∃ (F : Hp) (as : List SD) (P : SD → List SD → Prop), HotF A F ∧ ArgsOk T K F H vs as ∧ S as P ∧
  ∀ r as' v F' H', P r as' → PostOk T K F H vs as F' H' as' v r → Q v H'
/-- as FnG, while a refusal is handled -/
structure FnC (P : Program) (w : World) (K : PySem.W.Frag) (mg : Str → Option Value) (base : Heap) (T : List (Addr × Str)) (k : Nat) (f : Addr) (fd : FuncData) (ps : List Str) (S : DSp) : Prop where
  len : ∀ as Q, S as Q → as.length = ps.length
  go : ∀ (A : Around) (outer : List Env) (s : Shared) (H : Hp) (args : Args) (us : List Value) (vs : List V) (Q : VK), L2H.RoomH k A → A.guards = some [] → Env0 P w K mg base A outer s H →
    BindsTo s fd args (ps.zip us) → Vals vs us → spDH A T K S vs H Q → codeAny (model P w) A (.call (.ref f) args) (CR CX0 outer P w H s Q E0) s
structure DnC (P : Program) (w : World) (K : PySem.W.Frag) (mg : Str → Option Value) (base : Heap) (T : List (Addr × Str)) (x : Str) (k : Nat) (ps : List Str) (S : DSp) : Prop where
  ex : ∃ fd, FnC P w K mg base T k (He.ga K x) fd ps S ∧ Binds K fd ps []
  glo : mg x = some (.ref (He.ga K x))
  kp : PySem.W.keepIn K (.ref (He.ga K x)) = true
section
variable {P : Program} {w : World} {K : PySem.W.Frag} {mg : Str → Option Value} {base : Heap}
end
section
variable {X : Cx} {k : Nat} {f : Addr} {fd : FuncData} {ps : List Str} {S : DSp} {x : Str} {p pos : Pos} {e : Expr} {es : List Expr} {was : DA}
end
end DL

namespace RZ3A
open PySem RZ
open PySem.Sem (wp)
section
variable {prog : Program} {w : World} {A : Around} {E : Value → Shared → Prop} {s : Shared}
end

section
variable {prog : Program} {w : World} {A : Around} {E : Value → Shared → Prop} {s : Shared}

end
end RZ3A
namespace DL
variable {T : List (PySem.Addr × PySem.Str)} {Z : Zx T}
open PySem PySem.Spec PyProof.Rows L2 RZ3A
open Evl (Ex)
section
variable {X : Cx} {a b : Expr} {was : DA} {pos : Pos}
end
end DL

namespace DL
variable {T : List (PySem.Addr × PySem.Str)} {Z : Zx T}
open PySem PySem.Spec PyProof.Rows L2
open Evl (Ex)
end DL

namespace DL
variable {T : List (PySem.Addr × PySem.Str)} {Z : Zx T}
open PySem PySem.Spec PyProof.Rows L2
open Evl (Ex)
section
variable {X : Cx} {k : Nat} {y : Str} {p pos : Pos} {e : Expr} {es : List Expr} {was : DA}
end
end DL

namespace DL
variable {T : List (PySem.Addr × PySem.Str)} {Z : Zx T}
open PySem PySem.Spec PyProof.Rows L2
open Evl (Ex)
section
variable {X : Cx} {a b c d : Expr} {pos : Pos}
end
end DL

namespace DL
variable {T : List (PySem.Addr × PySem.Str)} {Z : Zx T}
open PySem PySem.Spec PyProof.Rows L2
open Evl (Ex)
section
variable {X : Cx} {a : Expr} {wa : DE}
end
end DL

namespace DL
variable {T : List (PySem.Addr × PySem.Str)} {Z : Zx T}
open PySem PySem.Spec PyProof.Rows L2 PySem.W
open Evl (Ex)
section
variable {X : Cx} {a : Expr} {wa : DE} {p p2 pos pos2 : Pos}
end
end DL

namespace K35
open PySem PySem.Spec PyProof.Rows L2 DL
abbrev Tp (K : PySem.W.Frag) (mg : Str → Option Value) : Prop := TopX fa fn fx K mg
section
variable {K : PySem.W.Frag} {mg : Str → Option Value}
theorem m_isinstance (T : Tp K mg) : mg "isinstance" = none := T.free "isinstance" 0
theorem m_int (T : Tp K mg) : mg "int" = none := T.free "int" 1
theorem m_bool (T : Tp K mg) : mg "bool" = none := T.free "bool" 2
theorem m_str (T : Tp K mg) : mg "str" = none := T.free "str" 3
theorem m_len (T : Tp K mg) : mg "len" = none := T.free "len" 4
theorem m_all (T : Tp K mg) : mg "all" = none := T.free "all" 5
theorem m_tuple (T : Tp K mg) : mg "tuple" = none := T.free "tuple" 6
theorem m_set (T : Tp K mg) : mg "set" = none := T.free "set" 7
theorem m_sorted (T : Tp K mg) : mg "sorted" = none := T.free "sorted" 8
theorem m_abs (T : Tp K mg) : mg "abs" = none := T.free "abs" 9
theorem m_range (T : Tp K mg) : mg "range" = none := T.free "range" 10
theorem m_max (T : Tp K mg) : mg "max" = none := T.free "max" 11
theorem m_min (T : Tp K mg) : mg "min" = none := T.free "min" 12
theorem c_MOST_SIGNS (T : Tp K mg) : ∃ t, mg "MOST_SIGNS" = some (.int 8 t) := T.int "MOST_SIGNS" 8 13
theorem c_LAST_HOUR (T : Tp K mg) : ∃ t, mg "LAST_HOUR" = some (.int 100000 t) := T.int "LAST_HOUR" 100000 14
theorem c_MOST_ROWS (T : Tp K mg) : ∃ t, mg "MOST_ROWS" = some (.int 60 t) := T.int "MOST_ROWS" 60 15
theorem cs_LETTERS (T : Tp K mg) : ∃ t, mg "LETTERS" = some (.str "abcdefghijklmnopqrstuvwxyz" t) := T.txt "LETTERS" "abcdefghijklmnopqrstuvwxyz" 0
end
def q_is_whole (thing : PyData) (K : PyData → Prop) : Prop :=
  vAnd (isiB thing "int") (fun k1 => k1 (.bool (!(isiB thing "bool")))) fun t2 =>
  K t2
def qb_is_name_1 (d : PyData) (i : PyData) (s : Unit) (sk : PyData → Unit → Prop) (yd : PyData → PyData → Unit → Prop) : Prop :=
  oIn d (.str "abcdefghijklmnopqrstuvwxyz") fun t11 =>
  yd t11 i ()
def q_is_name (thing : PyData) (K : PyData → Prop) : Prop :=
  tOr (!(isiB thing "str")) (fun k8 => nLen [thing] fun t1 =>
  oLe (.int 1) t1 fun t2 =>
  bT t2 fun b3 =>
  vAnd b3 (fun k5 => oLe t1 (.int (8)) fun t4 =>
  k5 t4) fun t6 =>
  bT t6 fun b7 =>
  k8 (!b7)) fun b9 =>
  bIf b9
  (K (.bool false))
  (itemsQ thing fun l10 =>
  qLc qb_is_name_1 thing l10 [] () fun l12 s14 =>
  nAll [(.list l12)] fun t15 =>
  K t15)
def q_is_hour (thing : PyData) (K : PyData → Prop) : Prop :=
  q_is_whole thing fun i1 =>
  bT i1 fun b2 =>
  vAnd b2 (fun k8 => oLe (.int 0) thing fun t3 =>
  bT t3 fun b4 =>
  vAnd b4 (fun k6 => oLe thing (.int (100000)) fun t5 =>
  k6 t5) fun t7 =>
  k8 t7) fun t9 =>
  K t9
def q_is_row (thing : PyData) (K : PyData → Prop) : Prop :=
  tOr (!(isiB thing "tuple")) (fun k14 => nLen [thing] fun t1 =>
  oNe t1 (.int 4) fun t2 =>
  bT t2 fun b3 =>
  tOr b3 (fun k12 => oIx thing (.int 0) fun t4 =>
  q_is_name t4 fun i5 =>
  bT i5 fun b6 =>
  tOr (!b6) (fun k10 => oIx thing (.int 1) fun t7 =>
  q_is_hour t7 fun i8 =>
  bT i8 fun b9 =>
  k10 (!b9)) fun b11 =>
  k12 b11) fun b13 =>
  k14 b13) fun b15 =>
  bIf b15
  (K (.bool false))
  (oIx thing (.int 2) fun t16 =>
  q_is_name t16 fun i17 =>
  bT i17 fun b18 =>
  vOr b18 (fun k24 => oIx thing (.int 2) fun t19 =>
  vAnd (isiB t19 "str") (fun k22 => oIx thing (.int 2) fun t20 =>
  oEq t20 (.str "") fun t21 =>
  k22 t21) fun t23 =>
  k24 t23) fun t25 =>
  bT t25 fun b26 =>
  vAnd b26 (fun k29 => oIx thing (.int 3) fun t27 =>
  q_is_name t27 fun i28 =>
  k29 i28) fun t30 =>
  K t30)
def qb_is_roll_1 (d : PyData) (i : PyData) (s : Unit) (sk : PyData → Unit → Prop) (yd : PyData → PyData → Unit → Prop) : Prop :=
  q_is_row d fun i5 =>
  yd i5 i ()
def qb_is_roll_2 (d : PyData) (i : PyData) (s : Unit) (sk : PyData → Unit → Prop) (yd : PyData → PyData → Unit → Prop) : Prop :=
  oSl d none (some 2) fun l16 =>
  yd l16 i ()
def q_is_roll (thing : PyData) (K : PyData → Prop) : Prop :=
  tOr (!(isiB thing "tuple")) (fun k13 => nLen [thing] fun t1 =>
  oGt t1 (.int (60)) fun t2 =>
  bT t2 fun b3 =>
  tOr b3 (fun k11 => itemsQ thing fun l4 =>
  qLc qb_is_roll_1 thing l4 [] () fun l6 s8 =>
  nAll [(.list l6)] fun t9 =>
  bT t9 fun b10 =>
  k11 (!b10)) fun b12 =>
  k13 b12) fun b14 =>
  bIf b14
  (K (.bool false))
  (itemsQ thing fun l15 =>
  qLc qb_is_roll_2 thing l15 [] () fun l17 s19 =>
  lenSetTQ (.list l17) fun t20 =>
  nLen [thing] fun t21 =>
  oEq t20 t21 fun t22 =>
  K t22)
def q_need_roll (thing : PyData) (K : PyData → Prop) : Prop :=
  q_is_roll thing fun i1 =>
  bT i1 fun b2 =>
  bIf (!b2)
  (False)
  (K .none)
def q_need_name (thing : PyData) (K : PyData → Prop) : Prop :=
  q_is_name thing fun i1 =>
  bT i1 fun b2 =>
  bIf (!b2)
  (False)
  (K .none)
def q_need_hour (thing : PyData) (K : PyData → Prop) : Prop :=
  q_is_hour thing fun i1 =>
  bT i1 fun b2 =>
  bIf (!b2)
  (False)
  (K .none)
def qb_rows_of_1 (d : PyData) (i : PyData × PyData) (s : Unit) (sk : (PyData × PyData) → Unit → Prop) (yd : PyData → (PyData × PyData) → Unit → Prop) : Prop :=
  oIx d (.int 0) fun t2 =>
  oEq t2 i.2 fun t3 =>
  bT t3 fun b4 =>
  bIf b4
  (oSl d (some 1) none fun l5 =>
  yd l5 (i.1, i.2) ())
  (sk (i.1, i.2) ())
def q_rows_of (roll : PyData) (man : PyData) (K : PyData → Prop) : Prop :=
  itemsQ roll fun l1 =>
  qLc qb_rows_of_1 (roll, man) l1 [] () fun l6 s8 =>
  sortedQ (.list l6) fun l9 =>
  K (.list l9)
def qb_standing_1 (K : PyData → Prop) (d : PyData) (i : PyData) (s : PyData) (nx bk : PyData → PyData → Prop) : Prop :=
  tupQ d fun r2 =>
  consQ r2 fun begun3 r4 =>
  consQ r4 fun ship5 r6 =>
  consQ r6 fun rank7 r8 =>
  nilQ r8 (oLe begun3 i fun t9 =>
  bT t9 fun b10 =>
  bIf b10
  (oNotN s fun t11 =>
  bT t11 fun b12 =>
  tAnd b12 (fun k16 => oIx s (.int 1) fun t13 =>
  oEq t13 rank7 fun t14 =>
  bT t14 fun b15 =>
  k16 b15) fun b17 =>
  jn (fun J20 => bIf b17
  (oIx s (.int 2) fun since18 =>
  J20 since18)
  (J20 begun3)) fun since19 =>
  nx i (.tuple [ship5, rank7, since19]))
  (nx i s))
def q_standing (rows : PyData) (hour : PyData) (K : PyData → Prop) : Prop :=
  itemsQ rows fun l1 =>
  qFor (qb_standing_1 K) hour l1 .none fun s22 =>
  K s22
def q_where_at (roll : PyData) (man : PyData) (hour : PyData) (K : PyData → Prop) : Prop :=
  q_need_roll roll fun n1 =>
  q_need_name man fun n2 =>
  q_need_hour hour fun n3 =>
  q_rows_of roll man fun r4 =>
  q_standing r4 hour fun s5 =>
  K s5
def q_by_since (crew : PyData) (K : PyData → Prop) : Prop :=
  sortedKQ (.two (.ix .it 2) (.ix .it 0)) crew fun l1 =>
  nTuple [(.list l1)] fun t2 =>
  K t2
def qb_crew_at_1 (d : PyData) (i : PyData × PyData × PyData × List PyData) (s : Unit) (sk : (PyData × PyData × PyData × List PyData) → Unit → Prop) (yd : PyData → (PyData × PyData × PyData × List PyData) → Unit → Prop) : Prop :=
  oIx d (.int 0) fun t5 =>
  yd t5 (i.1, i.2.1, i.2.2.1, i.2.2.2) ()
def qb_crew_at_2 (K : PyData → Prop) (d : PyData) (i : PyData × PyData × PyData) (s : List PyData) (nx bk : (PyData × PyData × PyData) → (List PyData) → Prop) : Prop :=
  q_rows_of i.1 d fun r11 =>
  q_standing r11 i.2.2 fun there12 =>
  oNotN there12 fun t13 =>
  bT t13 fun b14 =>
  tAnd b14 (fun k18 => oIx there12 (.int 0) fun t15 =>
  oEq t15 i.2.1 fun t16 =>
  bT t16 fun b17 =>
  k18 b17) fun b19 =>
  bIf b19
  (oIx there12 (.int 1) fun t20 =>
  oIx there12 (.int 2) fun t21 =>
  apQ s (.tuple [d, t20, t21]) fun found22 =>
  nx (i.1, i.2.1, i.2.2) found22)
  (nx (i.1, i.2.1, i.2.2) s)
def q_crew_at (roll : PyData) (ship : PyData) (hour : PyData) (K : PyData → Prop) : Prop :=
  q_need_roll roll fun n1 =>
  q_need_name ship fun n2 =>
  q_need_hour hour fun n3 =>
  itemsQ roll fun l4 =>
  qLc qb_crew_at_1 (roll, ship, hour, []) l4 [] () fun l6 s8 =>
  sortSetT (.list l6) fun l9 =>
  itemsQ (.list l9) fun l10 =>
  qFor (qb_crew_at_2 K) (roll, ship, hour) l10 [] fun s24 =>
  q_by_since (.list s24) fun b25 =>
  K b25
def qb_stays_of_1 (K : PyData → Prop) (d : PyData) (i : Unit) (s : List PyData) (nx bk : Unit → (List PyData) → Prop) : Prop :=
  tupQ d fun r5 =>
  consQ r5 fun hour6 r7 =>
  consQ r7 fun ship8 r9 =>
  consQ r9 fun rank10 r11 =>
  nilQ r11 (tAnd (List.isEmpty s != true) (fun k16 => ixQ s (.int (-1)) fun t12 =>
  oSl t12 (some 2) none fun l13 =>
  oEq l13 (.tuple [ship8, rank10]) fun t14 =>
  bT t14 fun b15 =>
  k16 b15) fun b17 =>
  bIf b17
  (nx () s)
  (jn (fun J25 => bIf (List.isEmpty s != true)
  (ixQ s (.int (-1)) fun t18 =>
  oIx t18 (.int 0) fun t19 =>
  ixQ s (.int (-1)) fun t20 =>
  oSl t20 (some 2) none fun l21 =>
  oAdd (.tuple [t19, hour6]) l21 fun t22 =>
  stQ s (.int (-1)) t22 fun found23 =>
  J25 found23)
  (J25 s)) fun found24 =>
  apQ found24 (.tuple [hour6, .none, ship8, rank10]) fun found26 =>
  nx () found26))
def q_stays_of (roll : PyData) (man : PyData) (K : PyData → Prop) : Prop :=
  q_need_roll roll fun n1 =>
  q_need_name man fun n2 =>
  q_rows_of roll man fun r3 =>
  itemsQ r3 fun l4 =>
  qFor (qb_stays_of_1 K) () l4 [] fun s28 =>
  K (.tuple s28)
def q_law_pot (script : PyData) (k : PyData) (K : List PyData → Prop) : Prop :=
  nLen [script] fun t1 =>
  oLt k t1 fun t2 =>
  bT t2 fun b3 =>
  jn (fun J10 => bIf b3
  (oIx script k fun t4 =>
  nAbs [t4] fun t5 =>
  oPow (.int 10) (.int 60) fun t6 =>
  oPow t6 (.int 10) fun t7 =>
  oMod t5 t7 fun cell8 =>
  J10 cell8)
  (J10 (.int 0))) fun cell9 =>
  oPow (.int 10) (.int 18) fun t11 =>
  oGe cell9 t11 fun t12 =>
  nInt [t12] fun t13 =>
  oMul cell9 t13 fun t14 =>
  oMod cell9 (.int 2147483629) fun t15 =>
  oMul (.int 7919) k fun t16 =>
  oAdd t15 t16 fun t17 =>
  oAdd t17 (.int 1) fun t18 =>
  oPow t18 (.int 5) fun t19 =>
  oMod t19 (.int 2147483647) fun t20 =>
  K [t14, t20]
def q_law_take (pot_here : List PyData) (many : PyData) (K : PyData → List PyData → Prop) : Prop :=
  ixQ pot_here (.int 0) fun t1 =>
  oGt t1 (.int 0) fun t2 =>
  bT t2 fun b3 =>
  bIf b3
  (ixQ pot_here (.int 0) fun t4 =>
  oMod t4 many fun found5 =>
  ixQ pot_here (.int 0) fun t6 =>
  oDiv t6 many fun t7 =>
  stQ pot_here (.int 0) t7 fun pot_here8 =>
  K found5 pot_here8)
  (ixQ pot_here (.int 1) fun t9 =>
  oMul t9 (.int 69621) fun t10 =>
  oAdd t10 (.int 12345) fun t11 =>
  oMod t11 (.int 2147483647) fun t12 =>
  stQ pot_here (.int 1) t12 fun pot_here13 =>
  ixQ pot_here13 (.int 1) fun t14 =>
  ixQ pot_here13 (.int 1) fun t15 =>
  oMul t14 t15 fun t16 =>
  oMod t16 (.int 2147483629) fun t17 =>
  oDiv t17 (.int 64) fun t18 =>
  oMod t18 many fun t19 =>
  K t19 pot_here13)
def qb_law_name_1 (d : PyData) (i : PyData) (s : List PyData) (sk : PyData → (List PyData) → Prop) (yd : PyData → PyData → (List PyData) → Prop) : Prop :=
  q_law_take s (.int 26) fun t11 pot_here12 =>
  oIx (.str "abcdefghijklmnopqrstuvwxyz") t11 fun t13 =>
  yd t13 i pot_here12
def q_law_name (pot_here : List PyData) (K : PyData → List PyData → Prop) : Prop :=
  q_law_take pot_here (.int 4) fun way1 pot_here2 =>
  oEq way1 (.int 0) fun t3 =>
  bT t3 fun b4 =>
  bIf b4
  (q_law_take pot_here2 (.int 7) fun t5 pot_here6 =>
  oIx (.list [(.str "a"), (.str "b"), (.str "ab"), (.str "ba"), (.str "z"), (.str "aa"), (.str "zzzzzzzz")]) t5 fun t7 =>
  K t7 pot_here6)
  (oSub way1 (.int 1) fun t8 =>
  oIx (.list [(.int 1), (.int 8), (.int 2)]) t8 fun size9 =>
  rng1 [size9] fun l10 =>
  qLc qb_law_name_1 size9 l10 [] pot_here2 fun l14 s16 =>
  nJoin "" (.list l14) fun t17 =>
  K t17 s16)
def qb_law_names_1 (d : PyData) (i : PyData) (s : List PyData) (sk : PyData → (List PyData) → Prop) (yd : PyData → PyData → (List PyData) → Prop) : Prop :=
  q_law_name s fun n5 pot_here6 =>
  yd n5 i pot_here6
def q_law_names (pot_here : List PyData) (most : PyData) (K : PyData → List PyData → Prop) : Prop :=
  q_law_take pot_here most fun t1 pot_here2 =>
  oAdd (.int 1) t1 fun t3 =>
  rng1 [t3] fun l4 =>
  qLc qb_law_names_1 most l4 [] pot_here2 fun l7 s9 =>
  sortSetT (.list l7) fun l10 =>
  K (.list l10) s9
def qb_law_roll_1 (K : PyData → List PyData → Prop) (d : PyData) (i : PyData × PyData × PyData × PyData) (s : List PyData × List PyData × KVD) (nx bk : (PyData × PyData × PyData × PyData) → (List PyData × List PyData × KVD) → Prop) : Prop :=
  nLen [i.1] fun t28 =>
  q_law_take s.1 t28 fun t29 pot_here30 =>
  oIx i.1 t29 fun man31 =>
  oAdd i.2.2.2 (.int 1) fun t32 =>
  q_law_take pot_here30 t32 fun t33 pot_here34 =>
  oAdd i.2.2.2 (.int 1) fun t35 =>
  q_law_take pot_here34 t35 fun t36 pot_here37 =>
  q_law_take pot_here37 (.int 4) fun t38 pot_here39 =>
  oIx (.list [(.int 0), i.2.2.2, t33, t36]) t38 fun hour40 =>
  oAdd i.2.1 (.list [(.str "")]) fun t41 =>
  nLen [i.2.1] fun t42 =>
  oAdd t42 (.int 1) fun t43 =>
  q_law_take pot_here39 t43 fun t44 pot_here45 =>
  oIx t41 t44 fun ship46 =>
  nLen [i.2.2.1] fun t47 =>
  q_law_take pot_here45 t47 fun t48 pot_here49 =>
  oIx i.2.2.1 t48 fun t50 =>
  jn (fun k55 => bIf (List.isEmpty s.2.1 != true) (q_law_take pot_here49 (.int 3) fun t51 pot_here52 =>
  oEq t51 (.int 0) fun t53 =>
  bT t53 fun b54 =>
  k55 b54 pot_here52) (k55 false pot_here49)) fun b56 pot_here57 =>
  jn (fun J65 => bIf b56
  (q_law_take pot_here57 (.int ((List.length s.2.1 : Nat) : Int)) fun t58 pot_here59 =>
  ixQ s.2.1 t58 fun t60 =>
  oSl t60 (some 2) none fun l61 =>
  oAdd (.tuple [man31, hour40]) l61 fun row62 =>
  J65 pot_here59 row62)
  (J65 pot_here57 (.tuple [man31, hour40, ship46, t50]))) fun pot_here63 row64 =>
  oSl row64 none (some 2) fun l66 =>
  inkQ true s.2.2 l66 fun t67 =>
  bT t67 fun b68 =>
  bIf b68
  (apQ s.2.1 row64 fun rows69 =>
  oSl row64 none (some 2) fun l70 =>
  putQ s.2.2 l70 (.bool true) fun told71 =>
  nx (i.1, i.2.1, i.2.2.1, i.2.2.2) (pot_here63, rows69, told71))
  (nx (i.1, i.2.1, i.2.2.1, i.2.2.2) (pot_here63, s.2.1, s.2.2))
def q_law_roll (pot_here : List PyData) (most : PyData) (K : PyData → List PyData → Prop) : Prop :=
  q_law_names pot_here (.int 6) fun n1 pot_here2 =>
  q_law_names pot_here2 (.int 3) fun n3 pot_here4 =>
  q_law_names pot_here4 (.int 4) fun n5 pot_here6 =>
  q_law_take pot_here6 (.int 4) fun t7 pot_here8 =>
  oEq t7 (.int 0) fun t9 =>
  bT t9 fun b10 =>
  jn (fun J15 => bIf b10
  (oSl n1 none (some 2) fun l11 =>
  oSl n1 (some (-2)) none fun l12 =>
  J15 l11 l12)
  (J15 n3 n5)) fun ships13 ranks14 =>
  q_law_take pot_here8 (.int 3) fun t16 pot_here17 =>
  oIx (.list [(.int 6), (.int 30), (.int 100000)]) t16 fun top18 =>
  q_law_take pot_here17 (.int 8) fun t19 pot_here20 =>
  oAdd most (.int 1) fun t21 =>
  q_law_take pot_here20 t21 fun t22 pot_here23 =>
  q_law_take pot_here23 (.int 3) fun t24 pot_here25 =>
  oIx (.list [t19, t22, most]) t24 fun t26 =>
  rng1 [t26] fun l27 =>
  qFor (qb_law_roll_1 K) (n1, ships13, ranks14, top18) l27 (pot_here25, [], []) fun s73 =>
  K (.tuple [(.tuple s73.2.1), n1, ships13, ranks14]) s73.1
def qb_law_hours_1 (K : PyData → List PyData → Prop) (d : PyData) (i : List PyData) (s : PyData) (nx bk : (List PyData) → PyData → Prop) : Prop :=
  oIx d (.int 1) fun t9 =>
  oSub t9 (.int 1) fun t10 =>
  nMax2 [(.int 0), t10] fun t11 =>
  oIx d (.int 1) fun t12 =>
  oPow (.int 10) (.int 5) fun t13 =>
  oIx d (.int 1) fun t14 =>
  oAdd t14 (.int 1) fun t15 =>
  nMin2 [t13, t15] fun t16 =>
  oAdd s (.list [t11, t12, t16]) fun found17 =>
  nx i found17
def q_law_hours (pot_here : List PyData) (roll_here : PyData) (K : PyData → List PyData → Prop) : Prop :=
  oPow (.int 10) (.int 5) fun t1 =>
  oPow (.int 10) (.int 5) fun t2 =>
  oAdd t2 (.int 1) fun t3 =>
  q_law_take pot_here t3 fun t4 pot_here5 =>
  q_law_take pot_here5 (.int 40) fun t6 pot_here7 =>
  itemsQ roll_here fun l8 =>
  qFor (qb_law_hours_1 K) pot_here7 l8 (.list [(.int 0), t1, t4, t6]) fun s19 =>
  sortSetM s19 fun l20 =>
  K (.list l20) pot_here7
def qb_law_one_right_2 (d : PyData) (i : PyData × PyData × PyData × PyData × List PyData × PyData) (s : Unit) (sk : (PyData × PyData × PyData × PyData × List PyData × PyData) → Unit → Prop) (yd : PyData → (PyData × PyData × PyData × PyData × List PyData × PyData) → Unit → Prop) : Prop :=
  oIx d (.int 0) fun t5 =>
  oEq t5 i.2.1 fun t6 =>
  bT t6 fun b7 =>
  bIf b7
  (yd (.tuple [i.2.2.2.2.2, d]) (i.1, i.2.1, i.2.2.1, i.2.2.2.1, i.2.2.2.2.1, i.2.2.2.2.2) ())
  (sk (i.1, i.2.1, i.2.2.1, i.2.2.2.1, i.2.2.2.2.1, i.2.2.2.2.2) ())
def qb_law_one_right_1 (K : PyData → Prop) (d : PyData) (i : PyData × PyData × PyData × PyData) (s : List PyData) (nx bk : (PyData × PyData × PyData × PyData) → (List PyData) → Prop) : Prop :=
  q_crew_at i.1 d i.2.2.1 fun c3 =>
  itemsQ c3 fun l4 =>
  qLc qb_law_one_right_2 (i.1, i.2.1, i.2.2.1, i.2.2.2, s, d) l4 [] () fun l8 s10 =>
  exQ s l8 fun found11 =>
  nx (i.1, i.2.1, i.2.2.1, i.2.2.2) found11
def qb_law_one_right_3 (d : PyData) (i : PyData × PyData × PyData × PyData) (s : Unit) (sk : (PyData × PyData × PyData × PyData) → Unit → Prop) (yd : PyData → (PyData × PyData × PyData × PyData) → Unit → Prop) : Prop :=
  oIx d (.int 0) fun t31 =>
  oLe t31 i.2.2.1 fun t32 =>
  bT t32 fun b33 =>
  tAnd b33 (fun k42 => oIx d (.int 1) fun t34 =>
  oIsN t34 fun t35 =>
  bT t35 fun b36 =>
  tOr b36 (fun k40 => oIx d (.int 1) fun t37 =>
  oLt i.2.2.1 t37 fun t38 =>
  bT t38 fun b39 =>
  k40 b39) fun b41 =>
  k42 b41) fun b43 =>
  bIf b43
  (yd d (i.1, i.2.1, i.2.2.1, i.2.2.2) ())
  (sk (i.1, i.2.1, i.2.2.1, i.2.2.2) ())
def qb_law_one_right_4 (d : PyData) (i : PyData × PyData × PyData) (s : Unit) (sk : (PyData × PyData × PyData) → Unit → Prop) (yd : PyData → (PyData × PyData × PyData) → Unit → Prop) : Prop :=
  oSl d (some 2) none fun l50 =>
  yd l50 (i.1, i.2.1, i.2.2) ()
def q_law_one_right (roll_here : PyData) (ships : PyData) (man : PyData) (hour : PyData) (K : PyData → Prop) : Prop :=
  q_where_at roll_here man hour fun there1 =>
  itemsQ ships fun l2 =>
  qFor (qb_law_one_right_1 K) (roll_here, man, hour, there1) l2 [] fun s13 =>
  oIsN there1 fun t14 =>
  bT t14 fun b15 =>
  tOr b15 (fun k19 => oIx there1 (.int 0) fun t16 =>
  oEq t16 (.str "") fun t17 =>
  bT t17 fun b18 =>
  k19 b18) fun b20 =>
  jn (fun J28 => bIf b20
  (oEmp true (.list s13) (.list []) fun t21 =>
  bT t21 fun b22 =>
  bIf b22
  (K (.bool false))
  (J28))
  (oIx there1 (.int 0) fun t23 =>
  oIx there1 (.int 1) fun t24 =>
  oIx there1 (.int 2) fun t25 =>
  oNe (.list s13) (.list [(.tuple [t23, (.tuple [man, t24, t25])])]) fun t26 =>
  bT t26 fun b27 =>
  bIf b27
  (K (.bool false))
  (J28))) (q_stays_of roll_here man fun s29 =>
  itemsQ s29 fun l30 =>
  qLc qb_law_one_right_3 (roll_here, man, hour, there1) l30 [] () fun l44 s46 =>
  oIsN there1 fun t47 =>
  bT t47 fun b48 =>
  bIf b48
  (K (.bool (List.isEmpty l44 != false)))
  (itemsQ (.list l44) fun l49 =>
  qLc qb_law_one_right_4 (hour, there1, (.list l44)) l49 [] () fun l51 s53 =>
  oSl there1 none (some 2) fun l54 =>
  oEq (.list l51) (.list [l54]) fun t55 =>
  bT t55 fun b56 =>
  vAnd b56 (fun k59 => oIx there1 (.int 2) fun t57 =>
  oLe t57 hour fun t58 =>
  k59 t58) fun t60 =>
  K t60))
def qb_law_row_more_1 (d : PyData) (i : List PyData × PyData × PyData × PyData × PyData × PyData × PyData × PyData × PyData × PyData) (s : Unit) (sk : (List PyData × PyData × PyData × PyData × PyData × PyData × PyData × PyData × PyData × PyData) → Unit → Prop) (yd : PyData → (List PyData × PyData × PyData × PyData × PyData × PyData × PyData × PyData × PyData × PyData) → Unit → Prop) : Prop :=
  oSl d none (some 2) fun l14 =>
  oEq l14 (.tuple [i.2.2.2.2.2.2.1, i.2.2.2.2.2.2.2.1]) fun t15 =>
  bT t15 fun b16 =>
  bIf b16
  (yd d (i.1, i.2.1, i.2.2.1, i.2.2.2.1, i.2.2.2.2.1, i.2.2.2.2.2.1, i.2.2.2.2.2.2.1, i.2.2.2.2.2.2.2.1, i.2.2.2.2.2.2.2.2.1, i.2.2.2.2.2.2.2.2.2) ())
  (sk (i.1, i.2.1, i.2.2.1, i.2.2.2.1, i.2.2.2.2.1, i.2.2.2.2.2.1, i.2.2.2.2.2.2.1, i.2.2.2.2.2.2.2.1, i.2.2.2.2.2.2.2.2.1, i.2.2.2.2.2.2.2.2.2) ())
def qb_law_row_more_3 (K : PyData → List PyData → Prop) (d : PyData) (i : List PyData × PyData × PyData × PyData × PyData × PyData × PyData × PyData × PyData) (s : Unit) (nx bk : (List PyData × PyData × PyData × PyData × PyData × PyData × PyData × PyData × PyData) → Unit → Prop) : Prop :=
  oNe i.2.2.2.2.2.2.2.2 i.2.2.2.1 fun t61 =>
  bT t61 fun b62 =>
  tOr b62 (fun k68 => oLt d i.2.2.2.2.1 fun t63 =>
  bT t63 fun b64 =>
  tOr b64 (fun k66 => bT i.2.2.2.2.2.1 fun b65 =>
  k66 b65) fun b67 =>
  k68 b67) fun b69 =>
  bIf b69
  (q_where_at i.2.2.2.2.2.2.2.1 i.2.2.2.2.2.2.2.2 d fun w70 =>
  q_where_at i.2.1 i.2.2.2.2.2.2.2.2 d fun w71 =>
  oNe w70 w71 fun t72 =>
  bT t72 fun b73 =>
  bIf b73
  (K (.bool false) i.1)
  (nx (i.1, i.2.1, i.2.2.1, i.2.2.2.1, i.2.2.2.2.1, i.2.2.2.2.2.1, i.2.2.2.2.2.2.1, i.2.2.2.2.2.2.2.1, i.2.2.2.2.2.2.2.2) ()))
  (nx (i.1, i.2.1, i.2.2.1, i.2.2.2.1, i.2.2.2.2.1, i.2.2.2.2.2.1, i.2.2.2.2.2.2.1, i.2.2.2.2.2.2.2.1, i.2.2.2.2.2.2.2.2) ())
def qb_law_row_more_2 (K : PyData → List PyData → Prop) (d : PyData) (i : List PyData × PyData × PyData × PyData × PyData × PyData × PyData × PyData) (s : Unit) (nx bk : (List PyData × PyData × PyData × PyData × PyData × PyData × PyData × PyData) → Unit → Prop) : Prop :=
  itemsQ i.2.2.1 fun l60 =>
  qFor (qb_law_row_more_3 K) (i.1, i.2.1, i.2.2.1, i.2.2.2.1, i.2.2.2.2.1, i.2.2.2.2.2.1, i.2.2.2.2.2.2.1, i.2.2.2.2.2.2.2, d) l60 () fun s75 =>
  nx (i.1, i.2.1, i.2.2.1, i.2.2.2.1, i.2.2.2.2.1, i.2.2.2.2.2.1, i.2.2.2.2.2.2.1, i.2.2.2.2.2.2.2) ()
def q_law_row_more (pot_here : List PyData) (roll_here : PyData) (men : PyData) (hours_here : PyData) (ships : PyData) (ranks : PyData) (K : PyData → List PyData → Prop) : Prop :=
  nLen [men] fun t1 =>
  q_law_take pot_here t1 fun t2 pot_here3 =>
  oIx men t2 fun man4 =>
  nLen [hours_here] fun t5 =>
  q_law_take pot_here3 t5 fun t6 pot_here7 =>
  oIx hours_here t6 fun hour8 =>
  q_where_at roll_here man4 hour8 fun there9 =>
  q_law_take pot_here7 (.int 2) fun t10 pot_here11 =>
  oEq t10 (.int 0) fun t12 =>
  itemsQ roll_here fun l13 =>
  qLc qb_law_row_more_1 (pot_here11, roll_here, men, hours_here, ships, ranks, man4, hour8, there9, t12) l13 [] () fun l17 s19 =>
  oEmp true (.list l17) (.list []) fun t20 =>
  bT t20 fun b21 =>
  tOr b21 (fun k27 => oIsN there9 fun t22 =>
  bT t22 fun b23 =>
  tAnd b23 (fun k25 => bT t12 fun b24 =>
  k25 b24) fun b26 =>
  k27 b26) fun b28 =>
  bIf b28
  (K (.bool true) pot_here11)
  (nLen [ships] fun t29 =>
  q_law_take pot_here11 t29 fun t30 pot_here31 =>
  oIx ships t30 fun t32 =>
  nLen [ranks] fun t33 =>
  q_law_take pot_here31 t33 fun t34 pot_here35 =>
  oIx ranks t34 fun t36 =>
  bT t12 fun b37 =>
  jn (fun J40 => bIf b37
  (oSl there9 none (some 2) fun l38 =>
  J40 l38)
  (J40 (.tuple [t32, t36]))) fun place39 =>
  nLen [roll_here] fun t41 =>
  oAdd t41 (.int 1) fun t42 =>
  q_law_take pot_here35 t42 fun at_43 pot_here44 =>
  soQ at_43 fun o45 =>
  oSl roll_here none o45 fun l46 =>
  oAdd (.tuple [man4, hour8]) place39 fun t47 =>
  oAdd l46 (.tuple [t47]) fun t48 =>
  soQ at_43 fun o49 =>
  oSl roll_here o49 none fun l50 =>
  oAdd t48 l50 fun other51 =>
  bT t12 fun b52 =>
  tAnd b52 (fun k57 => q_stays_of other51 man4 fun s53 =>
  q_stays_of roll_here man4 fun s54 =>
  oNe s53 s54 fun t55 =>
  bT t55 fun b56 =>
  k57 b56) fun b58 =>
  bIf b58
  (K (.bool false) pot_here44)
  (itemsQ men fun l59 =>
  qFor (qb_law_row_more_2 K) (pot_here44, roll_here, hours_here, man4, hour8, t12, place39, other51) l59 () fun s77 =>
  q_where_at other51 man4 hour8 fun w78 =>
  oSl w78 none (some 2) fun l79 =>
  oEq l79 place39 fun t80 =>
  K t80 pot_here44))
def qb_law_called_1 (d : PyData) (i : PyData × PyData × PyData) (s : Unit) (sk : (PyData × PyData × PyData) → Unit → Prop) (yd : PyData → (PyData × PyData × PyData) → Unit → Prop) : Prop :=
  lstQ i.2.1 fun l2 =>
  oIx d (.int 0) fun t3 =>
  idxQ l2 t3 fun t4 =>
  oIx i.2.2 t4 fun t5 =>
  oSl d (some 1) none fun l6 =>
  oAdd (.tuple [t5]) l6 fun t7 =>
  yd t7 (i.1, i.2.1, i.2.2) ()
def q_law_called (roll_here : PyData) (men : PyData) (names_here : PyData) (K : PyData → Prop) : Prop :=
  itemsQ roll_here fun l1 =>
  qLc qb_law_called_1 (roll_here, men, names_here) l1 [] () fun l8 s10 =>
  nTuple [(.list l8)] fun t11 =>
  K t11
def qb_law_3 (K : PyData → Prop) (d : PyData) (i : PyData × List PyData × PyData × PyData × PyData × PyData × PyData × PyData) (s : Unit) (nx bk : (PyData × List PyData × PyData × PyData × PyData × PyData × PyData × PyData) → Unit → Prop) : Prop :=
  q_law_one_right i.2.2.1 i.2.2.2.2.1 i.2.2.2.2.2.2.2 d fun o39 =>
  bT o39 fun b40 =>
  bIf (!b40)
  (K (.bool false))
  (nx (i.1, i.2.1, i.2.2.1, i.2.2.2.1, i.2.2.2.2.1, i.2.2.2.2.2.1, i.2.2.2.2.2.2.1, i.2.2.2.2.2.2.2) ())
def qb_law_2 (K : PyData → Prop) (d : PyData) (i : PyData × List PyData × PyData × PyData × PyData × PyData × PyData) (s : Unit) (nx bk : (PyData × List PyData × PyData × PyData × PyData × PyData × PyData) → Unit → Prop) : Prop :=
  itemsQ i.2.2.2.2.2.2 fun l38 =>
  qFor (qb_law_3 K) (i.1, i.2.1, i.2.2.1, i.2.2.2.1, i.2.2.2.2.1, i.2.2.2.2.2.1, i.2.2.2.2.2.2, d) l38 () fun s42 =>
  nx (i.1, i.2.1, i.2.2.1, i.2.2.2.1, i.2.2.2.2.1, i.2.2.2.2.2.1, i.2.2.2.2.2.2) ()
def qb_law_4 (d : PyData) (i : PyData × PyData × PyData × PyData × PyData) (s : Unit) (sk : (PyData × PyData × PyData × PyData × PyData) → Unit → Prop) (yd : PyData → (PyData × PyData × PyData × PyData × PyData) → Unit → Prop) : Prop :=
  nLen [i.2.2.1] fun t50 =>
  oSub t50 (.int 1) fun t51 =>
  oSub t51 d fun t52 =>
  oIx (.str "abcdef") t52 fun t53 =>
  oAdd (.str "qqqqqq") t53 fun t54 =>
  yd t54 (i.1, i.2.1, i.2.2.1, i.2.2.2.1, i.2.2.2.2) ()
def qb_law_7 (d : PyData) (i : PyData × PyData × PyData × PyData × PyData × PyData × PyData × PyData) (s : Unit) (sk : (PyData × PyData × PyData × PyData × PyData × PyData × PyData × PyData) → Unit → Prop) (yd : PyData → (PyData × PyData × PyData × PyData × PyData × PyData × PyData × PyData) → Unit → Prop) : Prop :=
  lstQ i.2.2.1 fun l64 =>
  oIx d (.int 0) fun t65 =>
  idxQ l64 t65 fun t66 =>
  oIx i.2.2.2.2.2.1 t66 fun t67 =>
  oSl d (some 1) none fun l68 =>
  oAdd (.tuple [t67]) l68 fun t69 =>
  yd t69 (i.1, i.2.1, i.2.2.1, i.2.2.2.1, i.2.2.2.2.1, i.2.2.2.2.2.1, i.2.2.2.2.2.2.1, i.2.2.2.2.2.2.2) ()
def qb_law_6 (K : PyData → Prop) (d : PyData) (i : PyData × PyData × PyData × PyData × PyData × PyData × PyData) (s : Unit) (nx bk : (PyData × PyData × PyData × PyData × PyData × PyData × PyData) → Unit → Prop) : Prop :=
  q_crew_at i.2.1 d i.2.2.2.2.1 fun c62 =>
  itemsQ c62 fun l63 =>
  qLc qb_law_7 (i.1, i.2.1, i.2.2.1, i.2.2.2.1, i.2.2.2.2.1, i.2.2.2.2.2.1, i.2.2.2.2.2.2, d) l63 [] () fun l70 s72 =>
  sortedAQ (.list l70) fun l73 =>
  q_crew_at i.2.2.2.2.2.2 d i.2.2.2.2.1 fun c74 =>
  sortedAQ c74 fun l75 =>
  oNe (.list l75) (.list l73) fun t76 =>
  bT t76 fun b77 =>
  bIf b77
  (K (.bool false))
  (nx (i.1, i.2.1, i.2.2.1, i.2.2.2.1, i.2.2.2.2.1, i.2.2.2.2.2.1, i.2.2.2.2.2.2) ())
def qb_law_5 (K : PyData → Prop) (d : PyData) (i : PyData × PyData × PyData × PyData × PyData × PyData) (s : Unit) (nx bk : (PyData × PyData × PyData × PyData × PyData × PyData) → Unit → Prop) : Prop :=
  itemsQ i.2.2.2.1 fun l61 =>
  qFor (qb_law_6 K) (i.1, i.2.1, i.2.2.1, i.2.2.2.1, d, i.2.2.2.2.1, i.2.2.2.2.2) l61 () fun s79 =>
  nx (i.1, i.2.1, i.2.2.1, i.2.2.2.1, i.2.2.2.2.1, i.2.2.2.2.2) ()
def qb_law_1 (K : PyData → Prop) (d : PyData) (i : PyData) (s : Unit) (nx bk : PyData → Unit → Prop) : Prop :=
  q_law_pot i d fun pot_here5 =>
  oEq d (.int 0) fun t6 =>
  nInt [t6] fun t7 =>
  oIx (.list [(.int 12), (.int 30)]) t7 fun t8 =>
  q_law_roll pot_here5 t8 fun r9 pot_here10 =>
  tupQ r9 fun r11 =>
  consQ r11 fun roll_here12 r13 =>
  consQ r13 fun men14 r15 =>
  consQ r15 fun ships16 r17 =>
  consQ r17 fun ranks18 r19 =>
  nilQ r19 (q_law_hours pot_here10 roll_here12 fun hours_here20 pot_here21 =>
  nLen [hours_here20] fun t22 =>
  q_law_take pot_here21 t22 fun t23 pot_here24 =>
  soQ t23 fun o25 =>
  oSl hours_here20 o25 none fun l26 =>
  oEq d (.int 0) fun t27 =>
  nInt [t27] fun t28 =>
  oIx (.list [(.int 6), (.int 20)]) t28 fun t29 =>
  soQ t29 fun o30 =>
  oSl l26 none o30 fun l31 =>
  oEq d (.int 0) fun t32 =>
  nInt [t32] fun t33 =>
  oIx (.list [(.int 2), (.int 6)]) t33 fun t34 =>
  soQ t34 fun o35 =>
  oSl men14 none o35 fun l36 =>
  itemsQ l36 fun l37 =>
  qFor (qb_law_2 K) (i, pot_here24, roll_here12, men14, ships16, ranks18, l31) l37 () fun s44 =>
  q_law_row_more pot_here24 roll_here12 men14 l31 ships16 ranks18 fun r45 pot_here46 =>
  bT r45 fun b47 =>
  bIf (!b47)
  (K (.bool false))
  (nLen [men14] fun t48 =>
  rng1 [t48] fun l49 =>
  qLc qb_law_4 (i, roll_here12, men14, ships16, l31) l49 [] () fun l55 s57 =>
  q_law_called roll_here12 men14 (.list l55) fun other58 =>
  oSl l31 none (some 4) fun l59 =>
  itemsQ l59 fun l60 =>
  qFor (qb_law_5 K) (i, roll_here12, men14, ships16, (.list l55), other58) l60 () fun s81 =>
  nx i ()))
def q_law (script : PyData) (K : PyData → Prop) : Prop :=
  nLen [script] fun t1 =>
  nMin2 [(.int 63), t1] fun t2 =>
  nMax2 [(.int 1), t2] fun t3 =>
  rng1 [t3] fun l4 =>
  qFor (qb_law_1 K) script l4 () fun s83 =>
  K (.bool true)
local macro_rules | `(tactic| walk_at "q") => `(tactic| try simp only [q_bT, q_add, q_addT, q_addL, q_addS, q_sub, q_mul, q_mulT, q_div, q_mod, q_pow, q_neg, q_lt, q_le, q_gt, q_ge, q_oI, q_eq, q_ne, q_eqS, q_neS, q_isN, q_isNi, q_isNt, q_isNs, q_notN, q_notNi, q_notNt, q_ix, q_ixL, q_ixQ, q_len, q_lenT, q_lenS, q_abs, q_min, q_max, q_tupleOf, q_tupleOfT, q_int, q_intB, q_list, q_listT, q_tup, q_cons, q_nil, q_so, q_lst, q_items, q_itemsT, q_rev, q_zip, q_zipT, q_rng1, q_rng2, q_sumI, q_sumTI, q_allB, q_anyB, q_ap, q_jn, q_fd, q_rep, q_slT, q_slL, q_max3, q_min3, q_str, q_cat, q_catN, q_scalN, q_scalB, q_scalI, q_scalS, q_enumL, q_enumT, q_inL, q_inT, q_inS, q_ninL, q_ninT, q_ninS, Bool.true_eq_false, Bool.false_eq_true, false_imp_iff, true_imp_iff, q_eqB, q_neB, q_empL, q_empT, q_isB, q_revL, q_revT, List.isEmpty_cons, List.isEmpty_nil, bne_self_eq_false, Bool.bne_false, Bool.bne_true, q_same, q_tAnd_k, q_tOr_k, q_vAnd_k, q_vOr_k, q_tAnd_s, q_tOr_s, q_vAnd_s, q_vOr_s, q_vIf_k, q_tAnd_t, q_tAnd_f, q_tOr_t, q_tOr_f, q_vAnd_t, q_vAnd_f, q_vOr_t, q_vOr_f, q_vIf_t, q_vIf_f, at0, at1, at2, at3, at4, at5, at6, atLast, st0, st1, st2, st3, st4, bIf_t, bIf_f, true_and, and_true, Bool.not_true, Bool.not_false, Bool.true_and, Bool.false_and, Bool.and_true, Bool.and_false, Bool.true_or, Bool.or_true, Bool.false_or, Bool.or_false, Bool.not_not, decide_true, decide_false, List.length_cons, List.cons_append, List.nil_append, List.length_nil, List.length_map, List.length_append, isi_non_int, isi_non_bool, isi_non_str, isi_non_list, isi_non_tuple, isi_non_dict, isi_bl_int, isi_bl_bool, isi_bl_str, isi_bl_list, isi_bl_tuple, isi_bl_dict, isi_int_int, isi_int_bool, isi_int_str, isi_int_list, isi_int_tuple, isi_int_dict, isi_str_int, isi_str_bool, isi_str_str, isi_str_list, isi_str_tuple, isi_str_dict, isi_lst_int, isi_lst_bool, isi_lst_str, isi_lst_list, isi_lst_tuple, isi_lst_dict, isi_tup_int, isi_tup_bool, isi_tup_str, isi_tup_list, isi_tup_tuple, isi_tup_dict, isi_dct_int, isi_dct_bool, isi_dct_str, isi_dct_list, isi_dct_tuple, isi_dct_dict])
local macro_rules | `(tactic| walk_at "side") => `(tactic| first | assumption | exact rfl | omega | exact sz_of (by omega) (by omega) | decide | (refine ⟨?_, ?_⟩ <;> walk_at "side"))
local macro_rules | `(tactic| walk_at "sides") => `(tactic| repeat ((with_reducible refine And.intro ?_ ?_); (· walk_at "side"); walk_at "q"))
local macro_rules | `(tactic| walk_at "go") => `(tactic| (walk_at "q"; walk_at "sides"))
local macro_rules | `(tactic| walk_at "j") => `(tactic| try simp only [q_bT, q_add, q_addT, q_addL, q_addS, q_sub, q_mul, q_mulT, q_div, q_mod, q_pow, q_neg, q_lt, q_le, q_gt, q_ge, q_oI, q_eq, q_ne, q_eqS, q_neS, q_isN, q_isNi, q_isNt, q_isNs, q_notN, q_notNi, q_notNt, q_ix, q_ixL, q_ixQ, q_len, q_lenT, q_lenS, q_abs, q_min, q_max, q_tupleOf, q_tupleOfT, q_int, q_intB, q_list, q_listT, q_tup, q_cons, q_nil, q_so, q_lst, q_items, q_itemsT, q_rev, q_zip, q_zipT, q_rng1, q_rng2, q_sumI, q_sumTI, q_allB, q_anyB, q_ap, q_fd, q_rep, q_slT, q_slL, q_max3, q_min3, q_str, q_cat, q_catN, q_scalN, q_scalB, q_scalI, q_scalS, q_enumL, q_enumT, q_inL, q_inT, q_inS, q_ninL, q_ninT, q_ninS, Bool.true_eq_false, Bool.false_eq_true, false_imp_iff, true_imp_iff, q_eqB, q_neB, q_empL, q_empT, q_isB, q_revL, q_revT, List.isEmpty_cons, List.isEmpty_nil, bne_self_eq_false, Bool.bne_false, Bool.bne_true, q_same, q_tAnd_k, q_tOr_k, q_vAnd_k, q_vOr_k, q_tAnd_s, q_tOr_s, q_vAnd_s, q_vOr_s, q_vIf_k, q_tAnd_t, q_tAnd_f, q_tOr_t, q_tOr_f, q_vAnd_t, q_vAnd_f, q_vOr_t, q_vOr_f, q_vIf_t, q_vIf_f, at0, at1, at2, at3, at4, at5, at6, atLast, st0, st1, st2, st3, st4, bIf_t, bIf_f, true_and, and_true, Bool.not_true, Bool.not_false, Bool.true_and, Bool.false_and, Bool.and_true, Bool.and_false, Bool.true_or, Bool.or_true, Bool.false_or, Bool.or_false, Bool.not_not, decide_true, decide_false, List.length_cons, List.cons_append, List.nil_append, List.length_nil, List.length_map, List.length_append, isi_non_int, isi_non_bool, isi_non_str, isi_non_list, isi_non_tuple, isi_non_dict, isi_bl_int, isi_bl_bool, isi_bl_str, isi_bl_list, isi_bl_tuple, isi_bl_dict, isi_int_int, isi_int_bool, isi_int_str, isi_int_list, isi_int_tuple, isi_int_dict, isi_str_int, isi_str_bool, isi_str_str, isi_str_list, isi_str_tuple, isi_str_dict, isi_lst_int, isi_lst_bool, isi_lst_str, isi_lst_list, isi_lst_tuple, isi_lst_dict, isi_tup_int, isi_tup_bool, isi_tup_str, isi_tup_list, isi_tup_tuple, isi_tup_dict, isi_dct_int, isi_dct_bool, isi_dct_str, isi_dct_list, isi_dct_tuple, isi_dct_dict])
def isW : PyData → Bool
  | .int _ => true
  | _ => false
def isIn (a : PyData) (l m : Int) : Bool := match a with
  | .int i => decide (l ≤ i) && decide (i ≤ m)
  | _ => false
structure Sale (g c r h b p q : Int) : Prop where
  g0 : 0 ≤ g
  g1 : g ≤ 10 ^ 12
  c0 : 0 ≤ c
  c1 : c ≤ 10 ^ 12
  r0 : 0 ≤ r
  r1 : r ≤ 10000
  h0 : 0 ≤ h
  h1 : h ≤ 1000
  b0 : 0 ≤ b
  b1 : b ≤ 10 ^ 9
  p0 : 0 ≤ p
  pq : p ≤ q
  q0 : 0 < q
  q1 : q ≤ 10 ^ 40
  co : Int.gcd p q = 1
structure SaleB (g c r h b p q : Int) : Prop where
  g0 : 0 ≤ g
  g1 : g ≤ 10 ^ 70
  c0 : 0 ≤ c
  c1 : c ≤ 10 ^ 12
  r0 : 0 ≤ r
  r1 : r ≤ 10000
  h0 : 0 ≤ h
  h1 : h ≤ 1000
  b0 : 0 ≤ b
  b1 : b ≤ 10 ^ 9
  p0 : 0 ≤ p
  pq : p ≤ q
  q0 : 0 < q
  q1 : q ≤ 10 ^ 40
theorem Sale.B {g c r h b p q : Int} (s : Sale g c r h b p q) : SaleB g c r h b p q := ⟨s.g0, Int.le_trans s.g1 (by decide), s.c0, s.c1, s.r0, s.r1, s.h0, s.h1, s.b0, s.b1, s.p0, s.pq, s.q0, s.q1⟩
def paid (g c : Int) : Int := if g < c then g else c
def caps (g c p q : Int) : Int := (g - paid g c) * p / q
def pot (g c h b p q : Int) : Int := caps g c p q + h * b
def fee (g c r h b p q : Int) : Int := pot g c h b p q * r / 10000
def PotOk (n : Int) (xs : List PyData) : Prop := ∃ g s t : Int, xs = [.int g, .int s, .int t] ∧ 0 ≤ s ∧ s ≤ 10 ^ 12 ∧ 0 ≤ t ∧ t ≤ n
theorem PotOk.mono {n m : Int} {xs : List PyData} (h : PotOk n xs) (e : n ≤ m) : PotOk m xs := by
  obtain ⟨g, s, t, h1, h2, h3, h4, h5⟩ := h
  exact ⟨g, s, t, h1, h2, h3, h4, by omega⟩
theorem caps_le {x p q : Int} (h0 : 0 ≤ x) (h1 : 0 ≤ p) (h2 : p ≤ q) (h3 : 0 < q) : 0 ≤ x * p / q ∧ x * p / q ≤ x := by
  refine ⟨Int.ediv_nonneg (Int.mul_nonneg h0 h1) (by omega), ?_⟩
  have : x * p ≤ x * q := Int.mul_le_mul_of_nonneg_left h2 h0
  exact Int.le_trans (Int.ediv_le_ediv h3 this) (by rw [Int.mul_ediv_cancel _ (by omega)]; exact Int.le_refl x)
theorem paid_in {g c : Int} (h0 : 0 ≤ g) (h1 : 0 ≤ c) : 0 ≤ paid g c ∧ paid g c ≤ g := by
  unfold paid
  split <;> omega
theorem sale_caps {g c r h b p q : Int} (s : Sale g c r h b p q) : 0 ≤ caps g c p q ∧ caps g c p q ≤ 10 ^ 12 := by
  have h1 := paid_in s.g0 s.c0
  have h2 := s.g1
  have h3 := caps_le (x := g - paid g c) (by omega) s.p0 s.pq s.q0
  unfold caps
  constructor
  · exact h3.1
  · exact Int.le_trans h3.2 (by omega)
theorem sale_pot {g c r h b p q : Int} (s : Sale g c r h b p q) : 0 ≤ pot g c h b p q ∧ pot g c h b p q ≤ 10 ^ 13 := by
  have h1 := sale_caps s
  have h2 : 0 ≤ h * b := Int.mul_nonneg s.h0 s.b0
  have h3 : h * b ≤ 1000 * 10 ^ 9 := Int.mul_le_mul s.h1 s.b1 s.b0 (by decide)
  unfold pot
  constructor <;> omega
def sharedOf (g c r h b p q : Int) : Int := pot g c h b p q - fee g c r h b p q
theorem Sale.sh {g c r h b p q : Int} (s : Sale g c r h b p q) : 0 ≤ sharedOf g c r h b p q ∧ sharedOf g c r h b p q ≤ 10 ^ 13 := by
  have h1 := sale_pot s
  have h2 := caps_le (x := pot g c h b p q) h1.1 s.r0 s.r1 (by decide : (0 : Int) < 10000)
  unfold sharedOf fee
  omega
theorem Sale.zero {g c r h b p q : Int} (s : Sale g c r h b p q) : Sale 0 c r h b p q := ⟨by omega, by omega, s.c0, s.c1, s.r0, s.r1, s.h0, s.h1, s.b0, s.b1, s.p0, s.pq, s.q0, s.q1, s.co⟩
theorem is_whole_q (a : PyData) (K : PyData → Prop) : q_is_whole a K = K (.bool (isW a)) := by
  cases a with
  | dict kv => rcases kv with _ | ⟨⟨kz, vz⟩, rz⟩ <;> (try cases kz) <;> rfl
  | _ => rfl
def alph : Str := "abcdefghijklmnopqrstuvwxyz"
theorem al_one (c : Nat) : inStr ⟨#[c]⟩ alph = decide (c ∈ alph.cps.toList) := by
  unfold inStr
  exact PySem.StrLaws.found_one alph c
def goodN (x : Str) : Bool := decide (1 ≤ x.length) && decide (x.length ≤ 8) && x.cps.toList.all fun c => decide (c ∈ alph.cps.toList)
def isNm : PyData → Bool
  | .str x => goodN x
  | _ => false
def isAl : PyData → Bool
  | .str x => inStr x alph
  | _ => false
theorem isi_s {d : PyData} (h : isiB d "str" = true) : ∃ x, d = .str x := by
  cases d with
  | str x => exact ⟨x, rfl⟩
  | dict kv => rcases kv with _ | ⟨⟨kz, vz⟩, rz⟩ <;> (try cases kz) <;> cases h
  | _ => cases h
theorem isNm_no {d : PyData} (h : isiB d "str" = false) : isNm d = false := by
  cases d with
  | str x => cases h
  | _ => rfl
theorem signs_len {x : Str} : (signsD x).length = x.length := by unfold signsD; simp [Str.length]
theorem signs_mem {x : Str} {d : PyData} (h : d ∈ signsD x) : ∃ c, d = .str ⟨#[c]⟩ ∧ c ∈ x.cps.toList := by
  unfold signsD at h
  obtain ⟨c, hc, rfl⟩ := List.mem_map.mp h
  exact ⟨c, rfl, hc⟩
theorem signs_all {x : Str} : (signsD x).all isAl = x.cps.toList.all fun c => decide (c ∈ alph.cps.toList) := by
  unfold signsD
  rw [List.all_map]
  congr 1
  funext c
  exact al_one c
theorem q_itemsS {x : Str} {K : List PyData → Prop} : itemsQ (.str x) K = K (signsD x) := At.eq
/-- texts short enough to be measured -/
def shS : PyData → Prop
  | .str x => x.length ≤ 100000
  | _ => True
theorem is_name_q (d : PyData) (hs : shS d) (K : PyData → Prop) (h : K (.bool (isNm d))) : q_is_name d K := by
  unfold q_is_name
  cases e : isiB d "str" with
  | false =>
    rw [isNm_no e] at h
    walk_at "q"
    exact h
  | true =>
    obtain ⟨x, rfl⟩ := isi_s e
    have hs : x.length ≤ 100000 := hs
    walk_at "q"
    have h : K (.bool (goodN x)) := h
    unfold goodN at h
    refine ⟨hs, bIf_of (fun hc => ?_) fun hc => ?_⟩
    · have e : (decide (1 ≤ x.length) && decide (x.length ≤ 8)) = false := by
        simp only [Bool.not_eq_true', Bool.and_eq_false_iff, decide_eq_false_iff_not] at hc ⊢
        omega
      rwa [e, Bool.false_and] at h
    · have e : (decide (1 ≤ x.length) && decide (x.length ≤ 8)) = true := by
        simp only [Bool.not_eq_false', Bool.and_eq_true, decide_eq_true_eq] at hc ⊢
        omega
      rw [e, Bool.true_and] at h
      rw [q_itemsS]
      refine qLc_map (fun d => .bool (isAl d)) (by rw [signs_len]; exact hs) (fun d hd sk yd hy => ?_) ?_
      · obtain ⟨c, rfl, _⟩ := signs_mem hd
        unfold qb_is_name_1
        rw [q_inS, Bool.bne_false]
        exact hy
      · walk_at "q"
        rw [signs_all]
        exact h
theorem need_name_q {d : PyData} (hs : shS d) (hn : isNm d = true) (K : PyData → Prop) (h : K .none) : q_need_name d K := by
  unfold q_need_name
  refine is_name_q d hs _ ?_
  rw [hn]
  walk_at "q"
  exact h
theorem canLay_strs : ∀ {l : List Str}, (∀ x ∈ l, goodN x = true) → PyData.canLayAll0 (l.map .str) = true
  | [], _ => rfl
  | x :: r, h => by
    rw [List.map_cons, PyData.canLayAll0, PyData.canLay0, canLay_strs fun y hy => h y (List.mem_cons_of_mem _ hy), Bool.and_true]
    have g := h x List.mem_cons_self
    unfold goodN at g
    simp only [Bool.and_eq_true, decide_eq_true_eq, List.all_eq_true] at g
    unfold PyData.strOk
    rw [← Array.all_toList, List.all_eq_true]
    intro c hc
    have a : ∀ c ∈ alph.cps.toList, c < 0x110000 := by decide +kernel
    exact decide_eq_true (a c (g.2 c hc))
theorem shaped_strs {l : List Str} (h : ∀ x ∈ l, goodN x = true) : SeqAt.shaped (.list (l.map .str)) = true := by
  unfold SeqAt.shaped
  rw [PyData.canLay0, canLay_strs h, Bool.true_and, decide_eq_true_eq, PyData.depth]
  have : PyData.depthAll (l.map PyData.str) ≤ 0 := by
    clear h
    induction l with
    | nil => simp [PyData.depthAll]
    | cons x r ih => rw [List.map_cons, PyData.depthAll, PyData.depth]; omega
  omega
theorem jn_by {α : Type} {f : (α → Prop) → Prop} {K : α → Prop} (P : α → Prop) (h : ∀ J : α → Prop, (∀ x, P x → J x) → f J) (k : ∀ x, P x → K x) : jn f K := h K k
theorem jn_by2 {α β : Type} {f : (α → β → Prop) → Prop} {K : α → β → Prop} (P : α → β → Prop) (h : ∀ J : α → β → Prop, (∀ x y, P x y → J x y) → f J) (k : ∀ x y, P x y → K x y) : jn f K := h K k
def MPot (xs : List PyData) : Prop := ∃ g s : Int, xs = [.int g, .int s] ∧ 0 ≤ s ∧ s < 2147483647
theorem pot_q (ns : List Int) (k : Int) (k0 : 0 ≤ k) (k1 : k ≤ 1000) (K : List PyData → Prop) (h : ∀ xs, MPot xs → K xs) : q_law_pot (.list (ns.map .int)) (.int k) K := by
  unfold q_law_pot
  walk_at "j"
  have z := sz_of (i := 10) (by decide) (by decide)
  have z60 : Sz (10 ^ Int.toNat 60) := sz_of (by decide) (by decide)
  have zz : (0 : Int) < (10 ^ Int.toNat 60) ^ Int.toNat 10 := by decide +kernel
  refine jn_by (fun d => ∃ c : Int, d = .int c ∧ 0 ≤ c ∧ c < (10 ^ Int.toNat 60) ^ Int.toNat 10) (fun J hJ => ?_) ?_
  · refine bIf_d (fun hk => ?_) fun _ => ?_
    · refine pick_mem k0 (by simpa using hk) fun d mem => ?_
      obtain ⟨c, _, rfl⟩ := List.mem_map.mp mem
      walk_at "q"
      refine ⟨⟨z, by decide, by decide⟩, ⟨z60, by decide, by decide⟩, zz, ?_⟩
      exact hJ _ ⟨_, rfl, Int.emod_nonneg _ (Int.ne_of_gt zz), Int.emod_lt_of_pos _ zz⟩
    · exact hJ _ ⟨0, rfl, Int.le_refl _, zz⟩
  · rintro _ ⟨c, rfl, c0, c1⟩
    have zc : Sz c := by
      unfold Sz
      have e : (10 : Int) ^ 1000 = (((10 : Nat) ^ 1000 : Nat) : Int) := by rw [Int.natCast_pow]; rfl
      have : (10 ^ Int.toNat 60 : Int) ^ Int.toNat 10 ≤ 10 ^ 1000 := by decide +kernel
      rw [e] at this
      omega
    walk_at "q"
    have b1 := Int.emod_nonneg c (by decide : (2147483629 : Int) ≠ 0)
    have b2 := Int.emod_lt_of_pos c (by decide : (0 : Int) < 2147483629)
    generalize c % 2147483629 = m at b1 b2 ⊢
    refine ⟨⟨z, by decide, by decide⟩, ⟨zc, ?_⟩, by decide, ⟨by walk_at "side", by walk_at "side"⟩, ⟨by walk_at "side", by decide, by decide⟩, by decide, ?_⟩
    · split <;> exact sz_of (by decide) (by decide)
    · exact h _ ⟨_, _, rfl, Int.emod_nonneg _ (by decide), Int.emod_lt_of_pos _ (by decide)⟩
theorem take_q {m : Int} {xs : List PyData} (hp : MPot xs) (m0 : 0 < m) (m1 : m ≤ 10 ^ 50) (K : PyData → List PyData → Prop) (h : ∀ r xs', 0 ≤ r → r < m → MPot xs' → K (.int r) xs') : q_law_take xs (.int m) K := by
  obtain ⟨g, s, rfl, s0, s1⟩ := hp
  unfold q_law_take
  walk_at "q"
  refine bIf_d (fun h0 => ?_) fun h0 => ?_
  · walk_at "sides"
    exact h _ _ (Int.emod_nonneg _ (by omega)) (Int.emod_lt_of_pos _ m0) ⟨_, s, rfl, s0, s1⟩
  · have b1 := Int.emod_nonneg (s * 69621 + 12345) (by decide : (2147483647 : Int) ≠ 0)
    have b2 := Int.emod_lt_of_pos (s * 69621 + 12345) (by decide : (0 : Int) < 2147483647)
    generalize (s * 69621 + 12345) % 2147483647 = A at b1 b2 ⊢
    walk_at "sides"
    exact h _ _ (Int.emod_nonneg _ (by omega)) (Int.emod_lt_of_pos _ m0) ⟨g, A, rfl, b1, b2⟩
theorem pickS_of {z : Str} {k : Int} {P : PyData → Prop} (h0 : 0 ≤ k) (h1 : k < z.cps.toList.length) (hz : z.length ≤ 100000) (h : ∀ c ∈ z.cps.toList, P (.str ⟨#[c]⟩)) : pickS z k P := by
  have hl : k.toNat < z.cps.toList.length := by omega
  have e : atI z.cps.toList k = some z.cps.toList[k.toNat] := by
    unfold atI
    rw [ixN_in h0 h1]
    exact List.getElem?_eq_getElem hl
  unfold pickS
  rw [e]
  exact ⟨hz, h _ (List.getElem_mem hl)⟩
theorem q_ixS {z : Str} {k : Int} {P : PyData → Prop} : oIx (.str z) (.int k) P = pickS z k P := rfl
theorem al_len : alph.cps.toList.length = 26 := by decide +kernel
theorem join_signs : ∀ cs : List Nat, (Str.join "" (cs.map fun c => (⟨#[c]⟩ : Str))).cps.toList = cs
  | [] => rfl
  | [c] => rfl
  | c :: d :: r => by
    have ih := join_signs (d :: r)
    rw [List.map_cons] at ih
    rw [List.map_cons, List.map_cons]
    show (((⟨#[c]⟩ : Str) ++ "" ++ Str.join "" (_ :: _)).cps.toList) = _
    show (#[c] ++ ("" : Str).cps ++ (Str.join "" ((⟨#[d]⟩ : Str) :: r.map fun c => (⟨#[c]⟩ : Str))).cps).toList = _
    rw [Array.toList_append, Array.toList_append, ih]
    rfl
theorem good_join {cs : List Nat} (h1 : 1 ≤ cs.length) (h2 : cs.length ≤ 8) (h : ∀ c ∈ cs, c ∈ alph.cps.toList) : goodN (Txt.join "" (cs.map fun c => (⟨#[c]⟩ : Str))) = true := by
  have e : (Txt.join "" (cs.map fun c => (⟨#[c]⟩ : Str))).cps.toList = cs := by
    unfold Txt.join
    rw [PySem.StrLaws.glued_eq_join]
    exact join_signs cs
  have el : (Txt.join "" (cs.map fun c => (⟨#[c]⟩ : Str))).length = cs.length := by
    show (Txt.join "" (cs.map fun c => (⟨#[c]⟩ : Str))).cps.size = _
    rw [← Array.length_toList, e]
  unfold goodN
  rw [el, e]
  simp only [Bool.and_eq_true, decide_eq_true_eq, List.all_eq_true]
  exact ⟨⟨h1, h2⟩, h⟩
theorem sgl_map : ∀ {ds : List PyData}, (∀ d ∈ ds, ∃ c ∈ alph.cps.toList, d = .str ⟨#[c]⟩) → ∃ cs : List Nat, (∀ c ∈ cs, c ∈ alph.cps.toList) ∧ ds = (cs.map fun c => (⟨#[c]⟩ : Str)).map .str
  | [], _ => ⟨[], by simp, rfl⟩
  | d :: r, h => by
    obtain ⟨cs, h1, h2⟩ := sgl_map (ds := r) fun x hx => h x (List.mem_cons_of_mem _ hx)
    obtain ⟨c, hc, rfl⟩ := h d List.mem_cons_self
    refine ⟨c :: cs, fun x hx => ?_, by rw [h2]; rfl⟩
    rcases List.mem_cons.mp hx with rfl | hx
    · exact hc
    · exact h1 x hx
theorem law_name_q {xs : List PyData} (hp : MPot xs) (K : PyData → List PyData → Prop) (h : ∀ x xs', goodN x = true → MPot xs' → K (.str x) xs') : q_law_name xs K := by
  unfold q_law_name
  refine take_q hp (by decide) (by decide) _ fun w xs w0 w1 hp => ?_
  walk_at "q"
  refine bIf_d (fun h0 => ?_) fun h0 => ?_
  · refine take_q hp (by decide) (by decide) _ fun t xs t0 t1 hp => ?_
    walk_at "q"
    refine pick_mem t0 (by simpa using t1) fun d hd => ?_
    simp only [List.mem_cons, List.not_mem_nil, or_false] at hd
    rcases hd with rfl | rfl | rfl | rfl | rfl | rfl | rfl <;> exact h _ _ (by decide +kernel) hp
  · refine pick_mem (by omega) (by simp; omega) fun d hd => ?_
    obtain ⟨m, rfl, m0, m1⟩ : ∃ m : Int, d = .int m ∧ 1 ≤ m ∧ m ≤ 8 := by
      simp only [List.mem_cons, List.not_mem_nil, or_false] at hd
      rcases hd with rfl | rfl | rfl <;> exact ⟨_, rfl, by decide, by decide⟩
    walk_at "q"
    refine ⟨⟨by omega, by omega⟩, ?_⟩
    refine qLc_each (fun y => ∃ c ∈ alph.cps.toList, y = .str ⟨#[c]⟩) (fun _ s => MPot s) hp (by rw [range_len]; omega) (fun k d s sk yd hd hs hy => ?_) fun acc s hl ha hs => ?_
    · unfold qb_law_name_1
      refine take_q hs (by decide) (by decide) _ fun r xs r0 r1 hp => ?_
      rw [q_ixS]
      refine pickS_of r0 ?_ (by decide +kernel) fun c hc => hy _ _ ⟨c, hc, rfl⟩ hp
      have : ("abcdefghijklmnopqrstuvwxyz" : Str).cps.toList.length = 26 := al_len
      rw [this]
      exact r1
    · rw [range_len] at hl
      obtain ⟨cs, hc, rfl⟩ := sgl_map ha
      rw [List.length_map, List.length_map] at hl
      unfold nJoin
      dsimp only
      rw [DL.strs_map]
      refine ⟨?_, h _ _ (good_join (by omega) (by omega) hc) hs⟩
      unfold joinOk
      have e : (((cs.map fun c => (⟨#[c]⟩ : Str)).map (·.length)).sum) = cs.length := by
        clear hl hc ha
        induction cs with
        | nil => rfl
        | cons c r ih => rw [List.map_cons, List.map_cons, List.sum_cons, ih, List.length_cons]; show 1 + r.length = _; omega
      rw [e]
      have : ("" : Str).length = 0 := rfl
      rw [this]
      omega
theorem strs_of : ∀ {ds : List PyData}, (∀ d ∈ ds, ∃ x, goodN x = true ∧ d = .str x) → ∃ ts : List Str, (∀ x ∈ ts, goodN x = true) ∧ ds = ts.map .str
  | [], _ => ⟨[], by simp, rfl⟩
  | d :: r, h => by
    obtain ⟨cs, h1, h2⟩ := strs_of (ds := r) fun x hx => h x (List.mem_cons_of_mem _ hx)
    obtain ⟨c, hc, rfl⟩ := h d List.mem_cons_self
    refine ⟨c :: cs, fun x hx => ?_, by rw [h2]; rfl⟩
    rcases List.mem_cons.mp hx with rfl | hx
    · exact hc
    · exact h1 x hx
theorem lt_nodup {ms : List Str} (h : ms.Pairwise fun a b => strLt a b = true) : ms.Nodup := h.imp fun {a b} p e => by
  subst e
  rw [strLt_irr] at p
  cases p
theorem law_names_q {xs : List PyData} {m : Int} (m0 : 0 < m) (m1 : m ≤ 60) (hp : MPot xs) (K : PyData → List PyData → Prop)
    (h : ∀ (ms : List Str) (xs' : List PyData), (∀ x ∈ ms, goodN x = true) → (ms.Pairwise fun a b => strLt a b = true) → (ms.length : Int) ≤ m → 1 ≤ ms.length → MPot xs' → K (.list (ms.map .str)) xs') : q_law_names xs (.int m) K := by
  unfold q_law_names
  refine take_q hp m0 (by omega) _ fun t xs t0 t1 hp => ?_
  walk_at "q"
  refine ⟨⟨by omega, by omega⟩, ?_⟩
  refine qLc_each (fun y => ∃ x, goodN x = true ∧ y = .str x) (fun _ s => MPot s) hp (by rw [range_len]; omega) (fun k d s sk yd hd hs hy => ?_) fun acc s hl ha hs => ?_
  · unfold qb_law_names_1
    exact law_name_q hs _ fun x xs hx hp => hy _ _ ⟨x, hx, rfl⟩ hp
  · rw [range_len] at hl
    obtain ⟨ts, hg, rfl⟩ := strs_of ha
    rw [List.length_map] at hl
    cases ts with
    | nil => simp at hl; omega
    | cons n ns =>
      rw [List.map_cons, q_sortSetTS]
      refine ⟨by omega, fun ms pw hm => ?_⟩
      have nd := (lt_nodup pw).length_le_of_subset fun k hk => (hm k).mp hk
      refine h _ _ (fun x hx => hg x ((hm x).mp hx)) pw (by omega) ?_ hs
      cases ms with
      | nil => have := (hm n).mpr List.mem_cons_self; simp at this
      | cons a b => simp
theorem snocI {α : Type} {P : List α → Prop} (h0 : P []) (h1 : ∀ l x, P l → P (l ++ [x])) (l : List α) : P l := by
  have z : ∀ n (l : List α), l.length = n → P l := fun n => by
    induction n with
    | zero => exact fun l e => by rw [List.length_eq_zero_iff.mp e]; exact h0
    | succ n ih =>
      intro l e
      rcases List.eq_nil_or_concat l with rfl | ⟨k, x, rfl⟩
      · exact h0
      · rw [List.concat_eq_append] at e ⊢
        exact h1 k x (ih k (by simpa using e))
  exact z _ l rfl
/-- [F x for x in xs if p x], nothing changed -/
theorem qLc_sel {α I S : Type} {b : PyData → I → S → (I → S → Prop) → (PyData → I → S → Prop) → Prop} {xs : List α} {D : α → PyData} {i : I} {s : S} {K : List PyData → S → Prop} (F : α → PyData) (p : α → Bool) (hz : xs.length ≤ 100000)
    (step : ∀ x ∈ xs, ∀ (sk : I → S → Prop) (yd : PyData → I → S → Prop), (p x = true → yd (F x) i s) → (p x = false → sk i s) → b (D x) i s sk yd) (fin : K ((xs.filter p).map F) s) : qLc b i (xs.map D) [] s K :=
  qLc_ind (fun k acc s' => acc = ((xs.take k).filter p).map F ∧ s' = s) ⟨by simp, rfl⟩ (fun k acc s' hk h => by
      rw [h.1, List.length_map]
      have := List.length_filter_le p (xs.take k)
      rw [List.length_map] at hk
      rw [List.length_take] at this
      omega)
    (fun k d acc s' sk yd hd ⟨h1, h2⟩ hs hy => by
      subst h2
      rw [List.getElem?_map] at hd
      obtain ⟨x, ex, rfl⟩ := Option.map_eq_some_iff.mp hd
      have e : xs.take (k + 1) = xs.take k ++ [x] := by rw [List.take_add_one, ex]; rfl
      refine step x (List.mem_of_getElem? ex) sk yd (fun t => hy _ _ ⟨?_, rfl⟩) fun t => hs _ ⟨?_, rfl⟩
      · rw [e, List.filter_append, List.map_append, h1]
        simp [t]
      · rw [e, List.filter_append, List.map_append, h1]
        simp [t]) fun acc s' ⟨h1, h2⟩ => by
      subst h1 h2
      rw [List.length_map, List.take_length]
      exact fin
theorem qLc_all1 {α I S : Type} {b : PyData → I → S → (I → S → Prop) → (PyData → I → S → Prop) → Prop} {xs : List α} {D : α → PyData} {i : I} {s : S} {K : List PyData → S → Prop} (F : α → PyData) (hz : xs.length ≤ 100000)
    (step : ∀ x ∈ xs, ∀ (sk : I → S → Prop) (yd : PyData → I → S → Prop), yd (F x) i s → b (D x) i s sk yd) (fin : K (xs.map F) s) : qLc b i (xs.map D) [] s K :=
  qLc_sel F (fun _ => true) hz (fun x hx sk yd h _ => step x hx sk yd (h rfl)) (by
      have e : xs.filter (fun _ => true) = xs := by simp
      rw [e]
      exact fin)
theorem is_hour_q (d : PyData) (K : PyData → Prop) (h : K (.bool (isIn d 0 100000))) : q_is_hour d K := by
  unfold q_is_hour
  rw [is_whole_q]
  cases d <;> simp only [isW, isIn] at h ⊢ <;> walk_at "q" <;> exact h
structure Rl where
  m : Str
  h : Int
  s : Str
  r : Str
def rlD (x : Rl) : PyData := .tuple [.str x.m, .int x.h, .str x.s, .str x.r]
structure RlOk (x : Rl) : Prop where
  m : goodN x.m = true
  h0 : 0 ≤ x.h
  h1 : x.h ≤ 100000
  s : goodN x.s = true ∨ x.s = ""
  r : goodN x.r = true
theorem good_len {x : Str} (h : goodN x = true) : x.length ≤ 8 := by
  simp only [goodN, Bool.and_eq_true, decide_eq_true_eq] at h
  exact h.1.2
theorem good_sh {x : Str} (h : goodN x = true) : shS (.str x) := by
  have := good_len h
  show x.length ≤ 100000
  omega
theorem is_row_t {x : Rl} (hx : RlOk x) (K : PyData → Prop) (hK : K (.bool true)) : q_is_row (rlD x) K := by
  unfold q_is_row rlD
  have e1 : isIn (.int x.h) 0 100000 = true := by
    simp only [isIn, decide_eq_true hx.h0, decide_eq_true hx.h1]
    rfl
  have e2 : isNm (.str x.m) = true := hx.m
  have e3 : isNm (.str x.r) = true := hx.r
  walk_at "q"
  rw [decide_eq_true (show (((0 + 1 + 1 + 1 + 1 : Nat) : Int) = 4) from rfl)]
  walk_at "q"
  refine is_name_q _ (good_sh hx.m) _ ?_
  rw [e2]
  walk_at "q"
  refine is_hour_q _ _ ?_
  rw [e1]
  walk_at "q"
  have rest : ∀ b : Bool, b = true → (bT (PyData.bool b) fun b18 => vAnd b18 (fun k29 => q_is_name (.str x.r) fun i28 => k29 i28) fun t30 => K t30) := fun b e => by
    subst e
    walk_at "q"
    refine is_name_q _ (good_sh hx.r) _ ?_
    rw [e3]
    walk_at "q"
    exact hK
  rcases hx.s with hs | hs
  · refine is_name_q _ (good_sh hs) _ ?_
    have e4 : isNm (.str x.s) = true := hs
    rw [e4]
    walk_at "q"
    exact rest _ rfl
  · rw [hs]
    refine is_name_q (.str "") (show (0 : Nat) ≤ 100000 by decide) _ ?_
    exact rest _ rfl
/-- a key's parts -/
def keyR (x : Rl) : List Key := [.inr x.m, .inl x.h]
structure RollOk (rs : List Rl) : Prop where
  few : rs.length ≤ 60
  ok : ∀ x ∈ rs, RlOk x
  one : (rs.map keyR).Nodup
abbrev rollD (rs : List Rl) : PyData := .tuple (rs.map rlD)
theorem RollOk.perm {rs qs : List Rl} (h : RollOk rs) (p : qs.Perm rs) : RollOk qs := ⟨by rw [p.length_eq]; exact h.few, fun x hx => h.ok x (p.mem_iff.mp hx), (p.map _).nodup_iff.mpr h.one⟩
theorem keys_of : ∀ rs : List Rl, ktsOf (rs.map fun x => PyData.tuple [.str x.m, .int x.h]) = some (rs.map keyR)
  | [] => rfl
  | x :: r => by rw [List.map_cons, ktsOf, keys_of r]; rfl
theorem is_roll_t {rs : List Rl} (h : RollOk rs) (K : PyData → Prop) (hK : K (.bool true)) : q_is_roll (rollD rs) K := by
  have few := h.few
  unfold q_is_roll
  walk_at "q"
  rw [decide_eq_false (show ¬ ((rs.length : Nat) : Int) > 60 by omega)]
  walk_at "q"
  refine qLc_map (fun _ => .bool true) (by simp; omega) (fun d hd sk yd hy => ?_) ?_
  · obtain ⟨x, hx, rfl⟩ := List.mem_map.mp hd
    unfold qb_is_roll_1
    exact is_row_t (h.ok x hx) _ hy
  · walk_at "q"
    simp only [List.map_map, List.all_map, Function.comp_def]
    have e : (rs.all fun _ => true) = true := by simp
    rw [e]
    walk_at "q"
    refine qLc_all1 (fun x => PyData.tuple [.str x.m, .int x.h]) (by omega) (fun x hx sk yd hy => ?_) ?_
    · unfold qb_is_roll_2 rlD
      walk_at "q"
      exact hy
    · show lenSetTQ (.list (rs.map fun x => PyData.tuple [.str x.m, .int x.h])) _
      unfold lenSetTQ
      dsimp only
      rw [keys_of]
      have full := (dg_full (rs.map keyR) [] List.nodup_nil).mpr (by simpa using h.one)
      simp only [List.length_nil, Nat.zero_add, List.length_map] at full
      refine ⟨by rw [List.length_map]; omega, ?_⟩
      rw [full]
      walk_at "q"
      exact hK
theorem need_roll_t {rs : List Rl} (h : RollOk rs) (K : PyData → Prop) (hK : K .none) : q_need_roll (rollD rs) K := by
  unfold q_need_roll
  refine is_roll_t h _ ?_
  walk_at "q"
  exact hK
theorem need_hour_t {h : Int} (h0 : 0 ≤ h) (h1 : h ≤ 100000) (K : PyData → Prop) (hK : K .none) : q_need_hour (.int h) K := by
  unfold q_need_hour
  refine is_hour_q _ _ ?_
  have e : isIn (.int h) 0 100000 = true := by
    simp only [isIn, decide_eq_true h0, decide_eq_true h1]
    rfl
  rw [e]
  walk_at "q"
  exact hK
structure Rr where
  h : Int
  s : Str
  r : Str
def rrD (x : Rr) : PyData := .tuple [.int x.h, .str x.s, .str x.r]
def cutR (x : Rl) : Rr := ⟨x.h, x.s, x.r⟩
/-- strictly by the hour -/
def Up (l : List Rr) : Prop := l.Pairwise fun a b => a.h < b.h
theorem up_uniq : ∀ {l m : List Rr}, Up l → Up m → l.Perm m → l = m
  | [], m, _, _, p => p.nil_eq
  | a :: l, [], _, _, p => absurd p.symm.nil_eq (by simp)
  | a :: l, b :: m, hl, hm, p => by
    obtain ⟨l1, l2⟩ := List.pairwise_cons.mp hl
    obtain ⟨m1, m2⟩ := List.pairwise_cons.mp hm
    have e : a = b := by
      rcases List.mem_cons.mp (p.mem_iff.mp List.mem_cons_self) with z | z
      · exact z
      · rcases List.mem_cons.mp (p.mem_iff.mpr (List.mem_cons_self (a := b) (l := m))) with y | y
        · exact y.symm
        · have := m1 a z
          have := l1 b y
          omega
    subst e
    rw [up_uniq l2 m2 (List.Perm.cons_inv p)]
theorem le_row {a b : Rr} (h : PySem.W.dataLe false id (rrD a) (rrD b) = true) : a.h ≤ b.h := by
  have e : PySem.W.dataLe false id (rrD a) (rrD b) = !PySem.W.dataLt (rrD b) (rrD a) := rfl
  rw [e] at h
  unfold rrD at h
  rw [PySem.W.dataLt_tuple, PySem.W.dataLt_cons (by simp [PySem.W.alike]), PySem.W.dataLt_int] at h
  by_cases z : b.h = a.h
  · omega
  · have n : PyData.eqv (.int b.h) (.int a.h) = false := by
      simp only [PyData.eqv, beq_eq_false_iff_ne]
      exact z
    rw [n] at h
    simp at h
    omega
theorem map_perm {α β : Type} {f : α → β} : ∀ {l : List β} {m : List α}, l.Perm (m.map f) → ∃ k : List α, l = k.map f ∧ k.Perm m := by
  intro l m h
  obtain ⟨xs, hx⟩ : ∃ xs, xs = m.map f := ⟨_, rfl⟩
  rw [← hx] at h
  induction h generalizing m with
  | nil => exact ⟨m, hx, List.Perm.refl _⟩
  | cons x _ ih =>
    cases m with
    | nil => simp at hx
    | cons y m =>
      rw [List.map_cons] at hx
      injection hx with e1 e2
      obtain ⟨k, rfl, p⟩ := ih e2
      exact ⟨y :: k, by rw [e1]; rfl, p.cons y⟩
  | swap x y l =>
    match m, hx with
    | a :: b :: m, hx =>
      rw [List.map_cons, List.map_cons] at hx
      injection hx with e1 e2
      injection e2 with e2 e3
      exact ⟨b :: a :: m, by rw [e1, e2, e3]; rfl, List.Perm.swap ..⟩
  | trans _ _ ih1 ih2 =>
    obtain ⟨k2, e2, p2⟩ := ih2 hx
    obtain ⟨k1, e1, p1⟩ := ih1 e2
    exact ⟨k1, e1, p1.trans p2⟩
theorem alike_rows (l : List Rr) : PySem.W.AllAlike (l.map rrD) := PySem.W.AllAlike.of fun a b => by simp [rrD, PySem.W.alike, PySem.W.alikeAll]
theorem sort_ok_rows (l : List Rr) : sortOk (l.map rrD) := by
  refine ⟨alike_rows l, PySem.W.Sortable.tuples fun b => ⟨_, _, rfl⟩, fun d hd => ?_, ?_⟩
  · obtain ⟨x, _, rfl⟩ := List.mem_map.mp hd
    simp [rrD, PyData.depth, PyData.depthAll]
  · induction l with
    | nil => rfl
    | cons a l ih => rw [List.map_cons, PyData.hasDictAll, ih]; rfl
/-- rows of unlike hours, sorted -/
theorem sort_rows {l : List Rr} (nd : (l.map (·.h)).Nodup) : ∃ os : List Rr, sortD (l.map rrD) = os.map rrD ∧ Up os ∧ os.Perm l := by
  obtain ⟨os, e, p⟩ := map_perm (sortD_perm (l.map rrD))
  refine ⟨os, e, ?_, p⟩
  have pw := sortD_pair (l.map rrD)
  rw [e, List.pairwise_map] at pw
  have nd2 : (os.map (·.h)).Nodup := (p.map _).nodup_iff.mpr nd
  rw [List.Nodup, List.pairwise_map] at nd2
  exact (pw.and nd2).imp fun ⟨h1, h2⟩ => by
    have := le_row h1
    omega
/-- a man's rows of a roll -/
def rowsM (rs : List Rl) (m : Str) : List Rr := (rs.filter fun x => decide (x.m = m)).map cutR
theorem rows_nd {rs : List Rl} (h : (rs.map keyR).Nodup) (m : Str) : ((rowsM rs m).map (·.h)).Nodup := by
  unfold rowsM
  rw [List.map_map]
  induction rs with
  | nil => simp
  | cons x r ih =>
    rw [List.map_cons, List.nodup_cons] at h
    rw [List.filter_cons]
    split
    · rename_i hx
      have hx : x.m = m := by simpa using hx
      rw [List.map_cons, List.nodup_cons]
      refine ⟨fun z => ?_, ih h.2⟩
      obtain ⟨y, my, ey⟩ := List.mem_map.mp z
      have my := List.mem_filter.mp my
      have e2 : y.m = m := by simpa using my.2
      refine h.1 (List.mem_map.mpr ⟨y, my.1, ?_⟩)
      unfold keyR
      have ey : y.h = x.h := ey
      rw [e2, hx, ey]
    · exact ih h.2
theorem rows_perm {rs qs : List Rl} (p : qs.Perm rs) (m : Str) : (rowsM qs m).Perm (rowsM rs m) := (p.filter _).map _
/-- what rows_of tells -/
def SortsTo (rs : List Rl) (m : Str) (os : List Rr) : Prop := Up os ∧ os.Perm (rowsM rs m)
theorem SortsTo.uniq {rs qs : List Rl} {m : Str} {os us : List Rr} (h : SortsTo rs m os) (h' : SortsTo qs m us) (p : qs.Perm rs) : us = os := up_uniq h'.1 h.1 (h'.2.trans ((rows_perm p m).trans h.2.symm))
theorem sel_rows {I S : Type} {b : PyData → I → S → (I → S → Prop) → (PyData → I → S → Prop) → Prop} {rs : List Rl} {m : Str} {i : I} {s : S} {K : List PyData → S → Prop} (hz : rs.length ≤ 100000)
    (step : ∀ x ∈ rs, ∀ (sk : I → S → Prop) (yd : PyData → I → S → Prop), (decide (x.m = m) = true → yd (rrD (cutR x)) i s) → (decide (x.m = m) = false → sk i s) → b (rlD x) i s sk yd) (fin : K ((rowsM rs m).map rrD) s) : qLc b i (rs.map rlD) [] s K :=
  qLc_sel (fun x => rrD (cutR x)) (fun x => decide (x.m = m)) hz step (by
    have e : ((rs.filter fun x => decide (x.m = m)).map fun x => rrD (cutR x)) = (rowsM rs m).map rrD := by
      unfold rowsM
      rw [List.map_map]
      rfl
    rw [e]
    exact fin)
theorem rows_of_t {rs : List Rl} (h : RollOk rs) (m : Str) (K : PyData → Prop) (hK : ∀ os, SortsTo rs m os → K (.list (os.map rrD))) : q_rows_of (rollD rs) (.str m) K := by
  have few := h.few
  unfold q_rows_of
  walk_at "q"
  refine sel_rows (m := m) (by omega) (fun x hx sk yd hy hs => ?_) ?_
  · unfold qb_rows_of_1 rlD
    walk_at "q"
    refine bIf_d (fun c => hy (decide_eq_true c)) fun c => hs (decide_eq_false c)
  · obtain ⟨os, e, u, p⟩ := sort_rows (rows_nd h.one m)
    rw [q_sorted]
    refine ⟨sort_ok_rows _, ?_⟩
    rw [e]
    exact hK os ⟨u, p⟩
/-- ship, rank, since -/
def stD (o : Option (Str × Str × Int)) : PyData := match o with
  | none => .none
  | some (s, r, n) => .tuple [.str s, .str r, .int n]
def stNext (o : Option (Str × Str × Int)) (x : Rr) : Option (Str × Str × Int) := some (x.s, x.r, match o with
  | some (_, r, n) => if r = x.r then n else x.h
  | none => x.h)
/-- of the rows up to then, one behind the other -/
def stand (l : List Rr) : Option (Str × Str × Int) := l.foldl stNext none
theorem standing_t {os : List Rr} {h : Int} (hz : os.length ≤ 100000) (K : PyData → Prop) (hK : K (stD (stand (os.filter fun x => decide (x.h ≤ h))))) : q_standing (.list (os.map rrD)) (.int h) K := by
  unfold q_standing
  walk_at "q"
  refine qFor_ind (fun k s => s = stD (stand ((os.take k).filter fun x => decide (x.h ≤ h)))) rfl (fun k d s nx hd hs hnx => ?_) fun s hs => ?_
  · subst hs
    rw [List.getElem?_map] at hd
    obtain ⟨x, ex, rfl⟩ := Option.map_eq_some_iff.mp hd
    have e : os.take (k + 1) = os.take k ++ [x] := by rw [List.take_add_one, ex]; rfl
    unfold qb_standing_1 rrD
    walk_at "q"
    refine bIf_d (fun c => ?_) fun c => hnx _ ?_
    · have e2 : stand ((os.take (k + 1)).filter fun x => decide (x.h ≤ h)) = stNext (stand ((os.take k).filter fun x => decide (x.h ≤ h))) x := by
        rw [e, List.filter_append]
        unfold stand
        rw [List.foldl_append]
        simp [c]
      rw [e2] at hnx
      clear e2 hK
      generalize stand ((os.take k).filter fun x => decide (x.h ≤ h)) = o at hnx ⊢
      cases o with
      | none =>
        unfold stD
        walk_at "q"
        exact hnx _ rfl
      | some v =>
        obtain ⟨s, r, n⟩ := v
        unfold stD
        walk_at "q"
        refine bIf_d (fun z => hnx _ ?_) fun z => hnx _ ?_
        · unfold stNext stD
          simp [z]
        · unfold stNext stD
          simp [z]
    · rw [e, List.filter_append]
      simp [c]
  · rw [hs, List.length_map, List.take_length]
    exact hK
theorem stand_snoc (l : List Rr) (x : Rr) : stand (l ++ [x]) = stNext (stand l) x := by
  unfold stand
  rw [List.foldl_append]
  rfl
theorem where_t {rs : List Rl} (h : RollOk rs) {m : Str} (hm : goodN m = true) {hr : Int} (h0 : 0 ≤ hr) (h1 : hr ≤ 100000) {os : List Rr} (so : SortsTo rs m os) (K : PyData → Prop) (hK : K (stD (stand (os.filter fun x => decide (x.h ≤ hr))))) : q_where_at (rollD rs) (.str m) (.int hr) K := by
  unfold q_where_at
  refine need_roll_t h _ ?_
  refine need_name_q (d := .str m) (good_sh hm) hm _ ?_
  refine need_hour_t h0 h1 _ ?_
  refine rows_of_t h m _ fun us su => ?_
  rw [so.uniq su (List.Perm.refl _)]
  refine standing_t ?_ _ hK
  have := so.2.length_eq
  have l1 : (rowsM rs m).length ≤ rs.length := by
    unfold rowsM
    rw [List.length_map]
    exact List.length_filter_le _ _
  have := h.few
  omega
/-- [F x for x in xs if p x], nothing changed -/
theorem qLc_selB {α I S : Type} {b : PyData → I → S → (I → S → Prop) → (PyData → I → S → Prop) → Prop} {xs : List α} {D : α → PyData} {i : I} {s : S} {K : List PyData → S → Prop} (F : α → PyData) (p : α → Bool) (hz : xs.length ≤ 100000)
    (step : ∀ x ∈ xs, ∀ (sk : I → S → Prop) (yd : PyData → I → S → Prop), (p x = true → yd (F x) i s) → (p x = false → sk i s) → b (D x) i s sk yd) (fin : K ((xs.filter p).map F) s) : qLc b i (xs.map D) [] s K :=
  qLc_ind (fun k acc s' => acc = ((xs.take k).filter p).map F ∧ s' = s) ⟨by simp, rfl⟩ (fun k acc s' hk h => by
      rw [h.1, List.length_map]
      have := List.length_filter_le p (xs.take k)
      rw [List.length_map] at hk
      rw [List.length_take] at this
      omega)
    (fun k d acc s' sk yd hd ⟨h1, h2⟩ hs hy => by
      subst h2
      rw [List.getElem?_map] at hd
      obtain ⟨x, ex, rfl⟩ := Option.map_eq_some_iff.mp hd
      have e : xs.take (k + 1) = xs.take k ++ [x] := by rw [List.take_add_one, ex]; rfl
      refine step x (List.mem_of_getElem? ex) sk yd (fun t => hy _ _ ⟨?_, rfl⟩) fun t => hs _ ⟨?_, rfl⟩
      · rw [e, List.filter_append, List.map_append, h1]
        simp [t]
      · rw [e, List.filter_append, List.map_append, h1]
        simp [t]) fun acc s' ⟨h1, h2⟩ => by
      subst h1 h2
      rw [List.length_map, List.take_length]
      exact fin
theorem qLc_all1B {α I S : Type} {b : PyData → I → S → (I → S → Prop) → (PyData → I → S → Prop) → Prop} {xs : List α} {D : α → PyData} {i : I} {s : S} {K : List PyData → S → Prop} (F : α → PyData) (hz : xs.length ≤ 100000)
    (step : ∀ x ∈ xs, ∀ (sk : I → S → Prop) (yd : PyData → I → S → Prop), yd (F x) i s → b (D x) i s sk yd) (fin : K (xs.map F) s) : qLc b i (xs.map D) [] s K :=
  qLc_selB F (fun _ => true) hz (fun x hx sk yd h _ => step x hx sk yd (h rfl)) (by
      have e : xs.filter (fun _ => true) = xs := by simp
      rw [e]
      exact fin)
theorem q_itemsMT' {xs : List PyData} {K : List PyData → Prop} : itemsM (.tuple xs) K = K xs := q_itemsT
theorem q_itemsML' {xs : List PyData} {K : List PyData → Prop} : itemsM (.list xs) K = K xs := q_items
theorem q_ixMT' {xs : List PyData} {y : PyData} {P : PyData → Prop} : oIxM (.tuple xs) y P = oIx (.tuple xs) y P := rfl
theorem q_ixML' {xs : List PyData} {y : PyData} {P : PyData → Prop} : oIxM (.list xs) y P = oIx (.list xs) y P := rfl
local macro_rules | `(tactic| walk_at "m") => `(tactic| ((try simp only [q_itemsMT', q_itemsML', q_ixMT', q_ixML']); walk_at "q"))
/-- a row of names -/
def NmL (d : PyData) : Prop := ∃ ts : List Str, d = .list (ts.map .str) ∧ 1 ≤ ts.length ∧ ts.length ≤ 7 ∧ ∀ t ∈ ts, goodN t = true
theorem nml_cut {ts : List Str} {lo hi : Option Int} (h1 : ts.length ≤ 7) (h : ∀ t ∈ ts, goodN t = true) (h0 : 1 ≤ (DL.cutD (ts.map PyData.str) lo hi).length) : NmL (.list (DL.cutD (ts.map .str) lo hi)) := by
  have z : ∀ d ∈ DL.cutD (ts.map PyData.str) lo hi, ∃ x, goodN x = true ∧ d = .str x := fun d hd => by
    unfold DL.cutD at hd
    obtain ⟨t, mt, rfl⟩ := List.mem_map.mp (List.mem_of_mem_drop (List.mem_of_mem_take hd))
    exact ⟨t, h t mt, rfl⟩
  have l : (DL.cutD (ts.map PyData.str) lo hi).length ≤ ts.length := by
    unfold DL.cutD
    rw [List.length_take, List.length_drop, List.length_map]
    omega
  obtain ⟨us, h2, e⟩ := strs_of z
  rw [e, List.length_map] at h0 l
  exact ⟨us, by rw [e], h0, by omega, h2⟩
theorem told_at (rs : List Rl) (k : List Key) : (atD (rs.map fun x => (keyR x, PyData.bool true)) k).isSome = true ↔ k ∈ rs.map keyR := by
  unfold atD
  rw [Option.isSome_map, List.find?_isSome, List.mem_map]
  constructor
  · rintro ⟨p, hp, e⟩
    obtain ⟨x, hx, rfl⟩ := List.mem_map.mp hp
    exact ⟨x, hx, by simpa using e⟩
  · rintro ⟨x, hx, e⟩
    exact ⟨_, List.mem_map.mpr ⟨x, hx, rfl⟩, by simpa using e⟩
theorem hours_t {rs : List Rl} (hok : ∀ x ∈ rs, RlOk x) (few : rs.length ≤ 60) {xs : List PyData} (hp : MPot xs) (K : PyData → List PyData → Prop) (hK : ∀ (hs : List Int) xs', 1 ≤ hs.length → hs.length ≤ 400 → (∀ h ∈ hs, 0 ≤ h ∧ h ≤ 100000) → MPot xs' → K (.list (hs.map .int)) xs') : q_law_hours xs (rollD rs) K := by
  unfold q_law_hours
  have e5 : (10 : Int) ^ Int.toNat 5 = 100000 := by decide
  have z := sz_of (i := 10) (by decide) (by decide)
  walk_at "q"
  refine ⟨⟨z, by decide, by decide⟩, ⟨z, by decide, by decide⟩, ?_⟩
  rw [e5]
  refine take_q hp (by decide) (by decide) _ fun a xs a0 a1 hp => ?_
  refine take_q hp (by decide) (by decide) _ fun b xs b0 b1 hp => ?_
  walk_at "q"
  refine qFor_ind (fun k s => ∃ ns : List Int, s = .list (ns.map .int) ∧ ns.length = 4 + 3 * k ∧ (0 : Int) ∈ ns ∧ ∀ n ∈ ns, 0 ≤ n ∧ n ≤ 100000) ⟨[0, 100000, a, b], rfl, rfl, by simp, fun n hn => ?_⟩ (fun k d s nx hd hs hnx => ?_) fun s hs => ?_
  · simp only [List.mem_cons, List.not_mem_nil, or_false] at hn
    omega
  · obtain ⟨ns, rfl, hl, h0, hn⟩ := hs
    rw [List.getElem?_map] at hd
    obtain ⟨x, ex, rfl⟩ := Option.map_eq_some_iff.mp hd
    have hk := (List.getElem?_eq_some_iff.mp ex).1
    have hx := hok x (List.mem_of_getElem? ex)
    have x0 := hx.h0
    have x1 := hx.h1
    unfold qb_law_hours_1 rlD
    walk_at "q"
    refine ⟨⟨z, by decide, by decide⟩, by omega, hnx _ ⟨ns ++ [(if x.h - 1 > 0 then x.h - 1 else 0), x.h, (if x.h + 1 < 10 ^ Int.toNat 5 then x.h + 1 else 10 ^ Int.toNat 5)], by rw [List.map_append]; rfl, by simp; omega, by simp [h0], fun n m => ?_⟩⟩
    rw [e5] at m
    rcases List.mem_append.mp m with m | m
    · exact hn n m
    · simp only [List.mem_cons, List.not_mem_nil, or_false] at m
      rcases m with rfl | rfl | rfl
      · split <;> omega
      · omega
      · split <;> omega
  · obtain ⟨ns, rfl, hl, h0, hn⟩ := hs
    rw [q_sortSetM]
    rw [List.length_map] at hl
    refine ⟨by omega, fun ms pw hm => hK ms xs ?_ ?_ (fun h z => hn h ((hm h).mp z)) hp⟩
    · have := (hm 0).mpr h0
      cases ms with
      | nil => simp at this
      | cons c d => simp
    · have nd : ms.Nodup := pw.imp fun {a b} h => by omega
      have := nd.length_le_of_subset fun k hk => (hm k).mp hk
      omega
structure Hd where
  m : Str
  r : Str
  n : Int
def hdD (x : Hd) : PyData := .tuple [.str x.m, .str x.r, .int x.n]
abbrev kbS : Kx := .two (.ix .it 2) (.ix .it 0)
theorem key_hd (x : Hd) : kbS.val (hdD x) = some (.tuple [.int x.n, .str x.m]) := rfl
theorem keyOf_hd (x : Hd) : keyOf kbS (hdD x) = .tuple [.int x.n, .str x.m] := rfl
theorem sortK_hands (hs : List Hd) : sortKOk kbS (hs.map hdD) := by
  refine ⟨fun d hd => ?_, ?_, ?_, ?_⟩
  · obtain ⟨x, _, rfl⟩ := List.mem_map.mp hd
    exact ⟨_, key_hd x, rfl, by simp [PyData.depth, PyData.depthAll]⟩
  · rw [List.map_map]
    exact PySem.W.AllAlike.of fun a b => by simp [Function.comp, keyOf_hd, PySem.W.alike, PySem.W.alikeAll]
  · rw [List.map_map]
    exact PySem.W.Sortable.tuples fun b => ⟨_, _, rfl⟩
  · induction hs with
    | nil => rfl
    | cons a l ih => rw [List.map_cons, PyData.hasDictAll, ih]; rfl
theorem by_since_t (hs : List Hd) (hl : hs.length ≤ 1000) {d : PyData} (hd : d = .list (hs.map hdD) ∨ d = .tuple (hs.map hdD)) (K : PyData → Prop) (hK : ∀ os : List Hd, os.Perm hs → sortKD kbS (hs.map hdD) = os.map hdD → K (.tuple (os.map hdD))) : q_by_since d K := by
  obtain ⟨os, e, p⟩ := map_perm (sortKD_perm kbS (hs.map hdD))
  have fin : sortKOk kbS (hs.map hdD) ∧ nTuple [.list (sortKD kbS (hs.map hdD))] K := by
    refine ⟨sortK_hands hs, ?_⟩
    have hk := hK os p e
    rw [e]
    walk_at "q"
    exact hk
  unfold q_by_since
  rcases hd with rfl | rfl
  · rw [q_sortedKL]
    exact fin
  · rw [q_sortedKT]
    exact fin
def HL (a b : Hd) : Prop := a.n < b.n ∨ (a.n = b.n ∧ strLt a.m b.m = true)
theorem HL.irr {a : Hd} (h : HL a a) : False := by
  rcases h with h | ⟨_, h⟩
  · omega
  · rw [strLt_irr] at h
    cases h
theorem HL.trans {a b c : Hd} (h : HL a b) (k : HL b c) : HL a c := by
  rcases h with h | ⟨h1, h2⟩
  · rcases k with k | ⟨k1, k2⟩
    · exact .inl (by omega)
    · exact .inl (by omega)
  · rcases k with k | ⟨k1, k2⟩
    · exact .inl (by omega)
    · exact .inr ⟨by omega, strLt_trans h2 k2⟩
theorem hl_uniq : ∀ {l m : List Hd}, l.Pairwise HL → m.Pairwise HL → l.Perm m → l = m
  | [], m, _, _, p => p.nil_eq
  | a :: l, [], _, _, p => absurd p.symm.nil_eq (by simp)
  | a :: l, b :: m, hl, hm, p => by
    obtain ⟨l1, l2⟩ := List.pairwise_cons.mp hl
    obtain ⟨m1, m2⟩ := List.pairwise_cons.mp hm
    have e : a = b := by
      rcases List.mem_cons.mp (p.mem_iff.mp List.mem_cons_self) with z | z
      · exact z
      · rcases List.mem_cons.mp (p.mem_iff.mpr (List.mem_cons_self (a := b) (l := m))) with y | y
        · exact y.symm
        · exact ((m1 a z).trans (l1 b y)).irr.elim
    subst e
    rw [hl_uniq l2 m2 (List.Perm.cons_inv p)]
theorem hl_of {a b : Hd} {ys zs : List PyData} (h : PySem.W.dataLt (.tuple (.int b.n :: .str b.m :: zs)) (.tuple (.int a.n :: .str a.m :: ys)) = false) (hne : a.m ≠ b.m) : HL a b := by
  rw [PySem.W.dataLt_tuple, PySem.W.dataLt_cons (by simp [PySem.W.alike]), PySem.W.dataLt_int] at h
  by_cases z : b.n = a.n
  · have e : PyData.eqv (.int b.n) (.int a.n) = true := by
      simp only [PyData.eqv, beq_iff_eq]
      exact z
    rw [e, if_pos rfl, PySem.W.dataLt_cons (by simp [PySem.W.alike]), PySem.W.dataLt_str] at h
    have e2 : PyData.eqv (.str b.m) (.str a.m) = false := by
      simp only [PyData.eqv, beq_eq_false_iff_ne]
      exact fun k => hne k.symm
    rw [e2] at h
    simp only [Bool.false_eq_true, if_false] at h
    refine .inr ⟨z.symm, strLt_or (by rw [strLt_eq]; exact h) hne⟩
  · have e : PyData.eqv (.int b.n) (.int a.n) = false := by
      simp only [PyData.eqv, beq_eq_false_iff_ne]
      exact z
    rw [e] at h
    simp only [Bool.false_eq_true, if_false, decide_eq_false_iff_not] at h
    exact .inl (by omega)
/-- hands by their time aboard -/
def OrdH (hs os : List Hd) : Prop := os.Perm hs ∧ os.Pairwise HL
theorem OrdH.uniq {hs gs os us : List Hd} (h : OrdH hs os) (k : OrdH gs us) (p : gs.Perm hs) : us = os := hl_uniq k.2 h.2 (k.1.trans (p.trans h.1.symm))
theorem ord_of {os : List Hd} {L : Hd → Hd → Prop} (nd : (os.map (·.m)).Nodup) (h : os.Pairwise L) (hl : ∀ a b, a.m ≠ b.m → L a b → HL a b) : os.Pairwise HL := by
  rw [List.Nodup, List.pairwise_map] at nd
  exact (h.and nd).imp fun ⟨h1, h2⟩ => hl _ _ h2 h1
theorem by_since_ord {hs os : List Hd} (nd : (hs.map (·.m)).Nodup) (p : os.Perm hs) (e : sortKD kbS (hs.map hdD) = os.map hdD) : OrdH hs os := by
  refine ⟨p, ?_⟩
  have pw : (sortKD kbS (hs.map hdD)).Pairwise fun a b => PySem.W.dataLe false (keyOf kbS) a b = true := PySem.W.sort_pairwise (PySem.W.sortLe_total _ _ _) _
  rw [e, List.pairwise_map] at pw
  refine ord_of ((p.map _).nodup_iff.mpr nd) pw fun a b hne h => hl_of (ys := []) (zs := []) ?_ hne
  have : PySem.W.dataLe false (keyOf kbS) (hdD a) (hdD b) = !PySem.W.dataLt (keyOf kbS (hdD b)) (keyOf kbS (hdD a)) := rfl
  rw [this, keyOf_hd, keyOf_hd] at h
  simpa using h
/-- as tuples of time, name and rank -/
def hdT (x : Hd) : PyData := .tuple [.int x.n, .str x.m, .str x.r]
theorem sort_hdT {hs : List Hd} (nd : (hs.map (·.m)).Nodup) : ∃ os, sortD (hs.map hdT) = os.map hdT ∧ OrdH hs os := by
  obtain ⟨os, e, p⟩ := map_perm (sortD_perm (hs.map hdT))
  refine ⟨os, e, p, ?_⟩
  have pw := sortD_pair (hs.map hdT)
  rw [e, List.pairwise_map] at pw
  refine ord_of ((p.map _).nodup_iff.mpr nd) pw fun a b hne h => hl_of (ys := [.str a.r]) (zs := [.str b.r]) ?_ hne
  have : PySem.W.dataLe false id (hdT a) (hdT b) = !PySem.W.dataLt (hdT b) (hdT a) := rfl
  rw [this] at h
  simpa [hdT] using h
def crewD (hs : List Hd) : PyData := .tuple (hs.map hdD)
theorem ord_ex {hs : List Hd} (nd : (hs.map (·.m)).Nodup) : ∃ os, OrdH hs os := by
  obtain ⟨os, _, h⟩ := sort_hdT nd
  exact ⟨os, h⟩
open Classical in
noncomputable def oS (hs : List Hd) : List Hd := if h : ∃ os, OrdH hs os then h.choose else []
theorem oS_ord {hs : List Hd} (nd : (hs.map (·.m)).Nodup) : OrdH hs (oS hs) := by
  unfold oS
  rw [dif_pos (ord_ex nd)]
  exact (ord_ex nd).choose_spec
theorem standing_r {os : List Rr} {h : Int} (hz : os.length ≤ 100000) (K : PyData → Prop) (hK : K (stD (stand (os.filter fun x => decide (x.h ≤ h))))) : q_standing (.list (os.map rrD)) (.int h) K := standing_t hz K hK
theorem nodup_perm {α : Type} : ∀ {l m : List α}, l.Nodup → m.Nodup → (∀ x, x ∈ l ↔ x ∈ m) → l.Perm m
  | [], m, _, _, h => by
    cases m with
    | nil => exact .refl _
    | cons a m => exact absurd ((h a).mpr List.mem_cons_self) (by simp)
  | a :: l, m, nl, nm, h => by
    rw [List.nodup_cons] at nl
    obtain ⟨s, t, rfl⟩ := List.append_of_mem ((h a).mp List.mem_cons_self)
    have nm2 : (a :: (s ++ t)).Nodup := List.perm_middle.nodup_iff.mp nm
    rw [List.nodup_cons] at nm2
    have p : l.Perm (s ++ t) := nodup_perm nl.2 nm2.2 fun x => by
      have hx := h x
      have e : x ∈ s ++ a :: t ↔ x = a ∨ x ∈ s ++ t := by rw [List.perm_middle.mem_iff, List.mem_cons]
      rw [List.mem_cons, e] at hx
      constructor
      · intro z
        rcases hx.mp (.inr z) with rfl | y
        · exact absurd z nl.1
        · exact y
      · intro z
        rcases hx.mpr (.inr z) with rfl | y
        · exact absurd z nm2.1
        · exact y
    exact (p.cons a).trans List.perm_middle.symm
open Classical in
noncomputable def sortR (rs : List Rl) (m : Str) : List Rr := if h : ∃ os, SortsTo rs m os then h.choose else []
theorem sortR_eq {rs qs : List Rl} {m : Str} {os : List Rr} (so : SortsTo rs m os) (p : qs.Perm rs) : sortR qs m = os := by
  have k : ∃ os, SortsTo qs m os := ⟨os, so.1, so.2.trans (rows_perm p m).symm⟩
  unfold sortR
  rw [dif_pos k]
  exact so.uniq k.choose_spec p
noncomputable def stdR (rs : List Rl) (m : Str) (h : Int) : Option (Str × Str × Int) := stand ((sortR rs m).filter fun x => decide (x.h ≤ h))
open Classical in
noncomputable def menS (rs : List Rl) : List Str := if h : ∃ ms : List Str, ms.Pairwise (fun a b => strLt a b = true) ∧ ∀ k, k ∈ ms ↔ k ∈ rs.map (·.m) then h.choose else []
theorem menS_eq {rs : List Rl} {ms : List Str} (u : ms.Pairwise (fun a b => strLt a b = true)) (h : ∀ k, k ∈ ms ↔ k ∈ rs.map (·.m)) : menS rs = ms := by
  have k : ∃ ms : List Str, ms.Pairwise (fun a b => strLt a b = true) ∧ ∀ k, k ∈ ms ↔ k ∈ rs.map (·.m) := ⟨ms, u, h⟩
  unfold menS
  rw [dif_pos k]
  exact riseS_uniq k.choose_spec.1 u fun x => (k.choose_spec.2 x).trans (h x).symm
theorem sort_ex {rs : List Rl} (ok : RollOk rs) (m : Str) : ∃ os, SortsTo rs m os := by
  obtain ⟨os, _, u, p⟩ := sort_rows (rows_nd ok.one m)
  exact ⟨os, u, p⟩
def pickH (sh m : Str) (o : Option (Str × Str × Int)) : Option Hd := match o with
  | some (s, r, n) => if s = sh then some ⟨m, r, n⟩ else none
  | none => none
noncomputable def crewH (rs : List Rl) (sh : Str) (h : Int) : List Hd := (menS rs).filterMap fun m => pickH sh m (stdR rs m h)
theorem pickH_some {sh m : Str} {o : Option (Str × Str × Int)} {x : Hd} (h : pickH sh m o = some x) : x.m = m ∧ o = some (sh, x.r, x.n) := by
  unfold pickH at h
  split at h
  · rename_i s r n
    split at h
    · rename_i e
      injection h with h
      subst h
      subst e
      exact ⟨rfl, rfl⟩
    · cases h
  · cases h
noncomputable def crewL (rs : List Rl) (sh : Str) (h : Int) : List Hd := oS (crewH rs sh h)
theorem menS_nd (rs : List Rl) : (menS rs).Nodup := by
  unfold menS
  split
  · rename_i h
    exact h.choose_spec.1.imp fun {a b} p e => by rw [e, strLt_irr] at p; cases p
  · exact List.nodup_nil
theorem crewH_sub (rs : List Rl) (sh : Str) (h : Int) : List.Sublist ((crewH rs sh h).map (·.m)) (menS rs) := by
  unfold crewH
  generalize menS rs = ms
  induction ms with
  | nil => exact List.Sublist.refl _
  | cons a ms ih =>
    rw [List.filterMap_cons]
    cases e : pickH sh a (stdR rs a h) with
    | none => exact ih.cons _
    | some x =>
      dsimp only
      rw [List.map_cons, (pickH_some e).1]
      exact ih.cons_cons a
theorem crewH_nd (rs : List Rl) (sh : Str) (h : Int) : ((crewH rs sh h).map (·.m)).Nodup := (menS_nd rs).sublist (crewH_sub rs sh h)
theorem menS_mem {rs : List Rl} {m : Str} (h : m ∈ menS rs) : m ∈ rs.map (·.m) := by
  unfold menS at h
  split at h
  · rename_i k
    exact (k.choose_spec.2 m).mp h
  · cases h
theorem menS_few (rs : List Rl) : (menS rs).length ≤ rs.length := by
  have := List.Nodup.length_le_of_subset (menS_nd rs) (l₂ := rs.map (·.m)) fun x hx => menS_mem hx
  rwa [List.length_map] at this
theorem crewH_few (rs : List Rl) (sh : Str) (h : Int) : (crewH rs sh h).length ≤ rs.length := by
  have h1 := (crewH_sub rs sh h).length_le
  have h2 := menS_few rs
  rw [List.length_map] at h1
  omega
theorem stand_ok {Q : Str → Prop} {R : Int → Prop} {s r : Str} {n : Int} : ∀ {l : List Rr} {o : Option (Str × Str × Int)}, (∀ x ∈ l, Q x.r ∧ R x.h) → (∀ s r n, o = some (s, r, n) → Q r ∧ R n) → l.foldl stNext o = some (s, r, n) → Q r ∧ R n
  | [], o, _, ho, e => ho _ _ _ e
  | x :: l, o, hl, ho, e => by
    rw [List.foldl_cons] at e
    refine stand_ok (l := l) (fun y hy => hl y (List.mem_cons_of_mem _ hy)) (fun s r n h => ?_) e
    have hx := hl x List.mem_cons_self
    unfold stNext at h
    injection h with h
    injection h with _ h
    injection h with h1 h2
    subst h1
    refine ⟨hx.1, ?_⟩
    cases o with
    | none => dsimp only at h2; rw [← h2]; exact hx.2
    | some v =>
      obtain ⟨s', r', n'⟩ := v
      dsimp only at h2
      split at h2
      · rw [← h2]; exact (ho s' r' n' rfl).2
      · rw [← h2]; exact hx.2
theorem crewH_ok {rs : List Rl} (ok : RollOk rs) {sh : Str} {h : Int} : ∀ x ∈ crewH rs sh h, goodN x.m = true ∧ goodN x.r = true ∧ 0 ≤ x.n ∧ x.n ≤ 100000 := fun x hx => by
  unfold crewH at hx
  obtain ⟨m, hm, e⟩ := List.mem_filterMap.mp hx
  obtain ⟨e1, e2⟩ := pickH_some e
  obtain ⟨y, hy, rfl⟩ := List.mem_map.mp (menS_mem hm)
  refine ⟨by rw [e1]; exact (ok.ok y hy).m, ?_⟩
  obtain ⟨os, so⟩ := sort_ex ok y.m
  unfold stdR at e2
  rw [sortR_eq so (.refl _)] at e2
  refine stand_ok (Q := fun r => goodN r = true) (R := fun n => 0 ≤ n ∧ n ≤ 100000) (fun z hz => ?_) (fun _ _ _ z => by cases z) e2
  have hz := (List.mem_filter.mp hz).1
  have hz := so.2.mem_iff.mp hz
  unfold rowsM at hz
  obtain ⟨w, hw, rfl⟩ := List.mem_map.mp hz
  have := ok.ok w (List.mem_filter.mp hw).1
  exact ⟨this.r, this.h0, this.h1⟩
theorem sorts_lenR {rs : List Rl} (ok : RollOk rs) {m : Str} {os : List Rr} (so : SortsTo rs m os) : os.length ≤ 60 := by
  have := so.2.length_eq
  unfold rowsM at this
  rw [List.length_map] at this
  have h2 := List.length_filter_le (fun x : Rl => decide (x.m = m)) rs
  have := ok.few
  omega
theorem need_nameP {x : Str} (h : goodN x = true) (K : PyData → Prop) (hK : K .none) : q_need_name (.str x) K := by
  unfold q_need_name
  refine is_name_q _ (good_sh h) _ ?_
  have e : isNm (.str x) = true := h
  rw [e]
  walk_at "q"
  exact hK
theorem crew_at_t {rs : List Rl} (ok : RollOk rs) {sh : Str} (gs : goodN sh = true) {h : Int} (h0 : 0 ≤ h) (h1 : h ≤ 100000) (K : PyData → Prop) (hK : K (crewD (crewL rs sh h))) : q_crew_at (rollD rs) (.str sh) (.int h) K := by
  have few := ok.few
  unfold q_crew_at
  refine need_roll_t ok _ ?_
  refine need_nameP gs _ ?_
  refine need_hour_t h0 h1 _ ?_
  have rest : ∀ ms : List Str, ms = menS rs → qFor (qb_crew_at_2 K) (rollD rs, .str sh, .int h) (ms.map .str) [] fun s24 => q_by_since (.list s24) fun b25 => K b25 := fun ms em => by
    have lm : ms.length ≤ 60 := by rw [em]; have := menS_few rs; omega
    refine qFor_ind (fun k s => s = ((ms.take k).filterMap fun m => pickH sh m (stdR rs m h)).map hdD) rfl (fun k d s nx hd hs hnx => ?_) fun s hs => ?_
    · subst hs
      rw [List.getElem?_map] at hd
      obtain ⟨m, hm, rfl⟩ := Option.map_eq_some_iff.mp hd
      have hk : k < ms.length := (List.getElem?_eq_some_iff.mp hm).1
      have ll : ((ms.take k).filterMap fun m => pickH sh m (stdR rs m h)).length ≤ k := by
        have := List.length_filterMap_le (fun m => pickH sh m (stdR rs m h)) (ms.take k)
        rw [List.length_take] at this
        omega
      have tk : ((ms.take (k + 1)).filterMap fun m => pickH sh m (stdR rs m h)) = ((ms.take k).filterMap fun m => pickH sh m (stdR rs m h)) ++ (pickH sh m (stdR rs m h)).toList := by
        rw [List.take_add_one, hm, List.filterMap_append]
        cases e : pickH sh m (stdR rs m h) <;> simp [e]
      rw [tk] at hnx
      unfold qb_crew_at_2
      refine rows_of_t ok m _ fun os so => ?_
      have es : stdR rs m h = stand (os.filter fun x => decide (x.h ≤ h)) := by unfold stdR; rw [sortR_eq so (.refl _)]
      rw [es] at hnx
      have := sorts_lenR ok so
      refine standing_r (by omega) _ ?_
      generalize stand (os.filter fun x => decide (x.h ≤ h)) = o at hnx ⊢
      cases o with
      | none =>
        unfold stD
        walk_at "q"
        exact hnx _ (by simp [pickH])
      | some v =>
        obtain ⟨s, r, n⟩ := v
        unfold stD
        walk_at "q"
        refine bIf_d (fun c => ?_) fun c => hnx _ (by simp [pickH, c])
        refine ⟨by omega, hnx _ (by simp [pickH, c, hdD])⟩
    · subst hs
      rw [List.length_map, List.take_length, em]
      show q_by_since (.list ((crewH rs sh h).map hdD)) K
      have cf := crewH_few rs sh h
      refine by_since_t _ (by omega) (.inl rfl) _ fun os p e => ?_
      have := by_since_ord (crewH_nd rs sh h) p e
      have e2 : crewL rs sh h = os := (this.uniq (oS_ord (crewH_nd rs sh h)) (.refl _))
      rw [e2] at hK
      exact hK
  walk_at "q"
  refine qLc_all1 (fun x : Rl => PyData.str x.m) (by omega) (fun x hx sk yd hy => ?_) ?_
  · unfold qb_crew_at_1 rlD
    walk_at "q"
    exact hy
  · cases rs with
    | nil =>
      have e : (([] : List Rl).map fun x => PyData.str x.m) = ([] : List Int).map .int := rfl
      rw [e, q_sortSetTI]
      refine ⟨by decide, fun ms _ hm => ?_⟩
      cases ms with
      | nil => exact rest [] (menS_eq (ms := []) List.Pairwise.nil (by simp)).symm
      | cons a b => have := (hm a).mp List.mem_cons_self; simp at this
    | cons a b =>
      have e : ((a :: b).map fun x => PyData.str x.m) = .str a.m :: (b.map (·.m)).map .str := by rw [List.map_cons, List.map_map]; rfl
      rw [e, q_sortSetTS]
      rw [List.length_cons] at few
      refine ⟨by rw [List.length_cons, List.length_map]; omega, fun ms u hm => ?_⟩
      exact rest ms (menS_eq (rs := a :: b) u hm).symm
def TxR (x : Rr) : Prop := PyData.strOk x.s = true ∧ PyData.strOk x.r = true
theorem txt_of {x : Str} (h : goodN x = true ∨ x = "") : PyData.strOk x = true := by
  rcases h with h | h
  · have := shaped_strs (l := [x]) (fun y hy => by rw [List.mem_singleton.mp hy]; exact h)
    unfold SeqAt.shaped at this
    rw [Bool.and_eq_true] at this
    have := this.1
    simpa [PyData.canLay0, PyData.canLayAll0] using this
  · rw [h]; decide +kernel
theorem SortsTo.txt {rs : List Rl} {m : Str} {os : List Rr} (so : SortsTo rs m os) (h : ∀ x ∈ rs, RlOk x) : ∀ x ∈ os, TxR x := fun x hx => by
  have := so.2.mem_iff.mp hx
  unfold rowsM at this
  obtain ⟨y, hy, rfl⟩ := List.mem_map.mp this
  have ok := h y (List.mem_filter.mp hy).1
  exact ⟨txt_of ok.s, txt_of (.inl ok.r)⟩
theorem shp_ss {x : Rr} (h : TxR x) : SeqAt.shaped (.tuple [.str x.s, .str x.r]) = true := by
  unfold SeqAt.shaped
  rw [Bool.and_eq_true, decide_eq_true_eq]
  exact ⟨by simp [PyData.canLay0, PyData.canLayAll0, h.1, h.2], by simp [PyData.depth, PyData.depthAll]⟩
theorem eqD_ss (x y : Rr) : eqD (.tuple [.str x.s, .str x.r]) (.tuple [.str y.s, .str y.r]) = decide (x.s = y.s ∧ x.r = y.r) := by
  rw [eqD_eq]
  by_cases h1 : x.s = y.s <;> by_cases h2 : x.r = y.r <;> simp [PyData.eqv, PyData.eqvAll, h1, h2]
theorem eq_ss {x y : Rr} (hx : TxR x) (hy : TxR y) {P : PyData → Prop} (h : P (.bool (decide (x.s = y.s ∧ x.r = y.r)))) : oEq (.tuple [.str x.s, .str x.r]) (.tuple [.str y.s, .str y.r]) P := by
  show (SeqAt.shaped _ = true ∧ SeqAt.shaped _ = true) ∧ P (.bool (eqD _ _))
  rw [eqD_ss]
  exact ⟨⟨shp_ss hx, shp_ss hy⟩, h⟩
/-- the rows that tell another ship or rank than the one ahead -/
def begS (bs : List Rr) (x : Rr) : List Rr := match bs.getLast? with
  | some b => if b.s = x.s ∧ b.r = x.r then bs else bs ++ [x]
  | none => [x]
def begs (l : List Rr) : List Rr := l.foldl begS []
theorem begs_snoc (l : List Rr) (x : Rr) : begs (l ++ [x]) = begS (begs l) x := by
  unfold begs
  rw [List.foldl_append]
  rfl
theorem begs_last (l : List Rr) (y : Rr) : ∃ b, (begs (l ++ [y])).getLast? = some b ∧ b.s = y.s ∧ b.r = y.r := by
  rw [begs_snoc]
  unfold begS
  cases e : (begs l).getLast? with
  | none => exact ⟨y, by simp, rfl, rfl⟩
  | some b =>
    dsimp only
    by_cases c : b.s = y.s ∧ b.r = y.r
    · rw [if_pos c]
      exact ⟨b, e, c⟩
    · rw [if_neg c]
      exact ⟨y, by simp, rfl, rfl⟩
theorem begs_len (l : List Rr) : (begs l).length ≤ l.length := by
  refine snocI (P := fun l => (begs l).length ≤ l.length) (by simp [begs]) (fun l x ih => ?_) l
  rw [begs_snoc]
  unfold begS
  have e : (l ++ [x]).length = l.length + 1 := by simp
  rw [e]
  split
  · split
    · omega
    · rw [List.length_append, List.length_singleton]; omega
  · simp
theorem begs_mem (l : List Rr) : ∀ b ∈ begs l, b ∈ l := by
  refine snocI (P := fun l => ∀ b ∈ begs l, b ∈ l) (by simp [begs]) (fun l x ih b hb => ?_) l
  rw [begs_snoc] at hb
  unfold begS at hb
  split at hb
  · split at hb
    · exact List.mem_append_left _ (ih b hb)
    · rcases List.mem_append.mp hb with z | z
      · exact List.mem_append_left _ (ih b z)
      · exact List.mem_append_right _ z
  · exact List.mem_append_right _ hb
/-- each with the hour at which it ends -/
def prs : List Rr → List (Rr × PyData)
  | [] => []
  | [x] => [(x, .none)]
  | x :: y :: r => (x, .int y.h) :: prs (y :: r)
def stP (p : Rr × PyData) : PyData := .tuple [.int p.1.h, p.2, .str p.1.s, .str p.1.r]
theorem prs_snoc (b x : Rr) : ∀ c : List Rr, ∃ P, prs (c ++ [b]) = P ++ [(b, .none)] ∧ prs (c ++ [b] ++ [x]) = P ++ [(b, .int x.h)] ++ [(x, .none)]
  | [] => ⟨[], rfl, rfl⟩
  | a :: c => by
    obtain ⟨P, h1, h2⟩ := prs_snoc b x c
    cases c with
    | nil => exact ⟨[(a, .int b.h)], rfl, rfl⟩
    | cons y r => exact ⟨(a, .int y.h) :: P, by rw [List.cons_append, List.cons_append, prs]; rw [List.cons_append] at h1; rw [h1]; rfl, by rw [List.cons_append, List.cons_append, List.cons_append, List.cons_append, prs]; rw [List.cons_append, List.cons_append] at h2; rw [h2]; rfl⟩
theorem prs_len : ∀ l : List Rr, (prs l).length = l.length
  | [] => rfl
  | [_] => rfl
  | x :: y :: r => by rw [prs, List.length_cons, prs_len (y :: r)]; rfl
theorem st_last {xs : List PyData} {d e : PyData} {K : List PyData → Prop} (h : K (xs ++ [e])) : stQ (xs ++ [d]) (.int (-1)) e K := by
  show (match ixN (xs ++ [d]).length (-1) with | some j => K ((xs ++ [d]).set j e) | none => False)
  have z : ixN (xs ++ [d]).length (-1) = some xs.length := by
    unfold ixN
    rw [if_neg (by decide), List.length_append, List.length_singleton, if_pos (by omega)]
    congr 1
    omega
  rw [z]
  dsimp only
  have e2 : (xs ++ [d]).set xs.length e = xs ++ [e] := by simp
  rw [e2]
  exact h
theorem stays_t {rs : List Rl} (h : RollOk rs) {m : Str} (hm : goodN m = true) {os : List Rr} (so : SortsTo rs m os) (K : PyData → Prop) (hK : K (.tuple ((prs (begs os)).map stP))) : q_stays_of (rollD rs) (.str m) K := by
  have few := h.few
  unfold q_stays_of
  refine need_roll_t h _ ?_
  refine need_name_q (d := .str m) (good_sh hm) hm _ ?_
  refine rows_of_t h m _ fun us su => ?_
  rw [so.uniq su (List.Perm.refl _)]
  walk_at "q"
  refine qFor_ind (fun k s => s = (prs (begs (os.take k))).map stP) rfl (fun k d s nx hd hs hnx => ?_) fun s hs => ?_
  · subst hs
    rw [List.getElem?_map] at hd
    obtain ⟨x, ex, rfl⟩ := Option.map_eq_some_iff.mp hd
    have e : os.take (k + 1) = os.take k ++ [x] := by rw [List.take_add_one, ex]; rfl
    rw [e] at hnx
    have lk := begs_len (os.take k)
    rw [List.length_take] at lk
    have l2 : os.length ≤ 60 := by
      have l1 : (rowsM rs m).length ≤ rs.length := by
        unfold rowsM
        rw [List.length_map]
        exact List.length_filter_le _ _
      have := so.2.length_eq
      omega
    rw [begs_snoc] at hnx
    have hb : ∀ b ∈ begs (os.take k), TxR b := fun b hb => so.txt h.ok b (List.mem_of_mem_take (begs_mem _ b hb))
    generalize begs (os.take k) = bs at hnx lk hb ⊢
    have ed : rrD x = .tuple [.int x.h, .str x.s, .str x.r] := rfl
    rw [ed]
    unfold qb_stays_of_1
    rcases List.eq_nil_or_concat bs with rfl | ⟨c, b, rfl⟩
    · have e0 : (prs []).map stP = [] := rfl
      rw [e0]
      walk_at "q"
      refine ⟨by simp [prs], hnx _ rfl⟩
    · rw [List.concat_eq_append] at hnx lk ⊢
      obtain ⟨P, e1, e2⟩ := prs_snoc b x c
      unfold begS at hnx
      rw [List.getLast?_append, List.getLast?_singleton] at hnx
      simp only [Option.some_or] at hnx
      rw [e1, List.map_append, List.map_singleton]
      have es : stP (b, .none) = .tuple [.int b.h, .none, .str b.s, .str b.r] := rfl
      have ne : ∀ d : PyData, (P.map stP ++ [d]).isEmpty = false := fun d => by simp
      rw [es]
      simp only [ne]
      walk_at "q"
      rw [show DL.cutD [PyData.int b.h, .none, .str b.s, .str b.r] (some 2) none = [.str b.s, .str b.r] from rfl]
      refine eq_ss (hb b (by simp)) (so.txt h.ok x (List.mem_of_getElem? ex)) ?_
      walk_at "q"
      have lc : c.length + 1 ≤ 60 := by
        rw [List.length_append, List.length_singleton] at lk
        omega
      by_cases q : b.s = x.s ∧ b.r = x.r
      · rw [decide_eq_true q]
        rw [if_pos q] at hnx
        walk_at "q"
        refine hnx _ ?_
        rw [e1, List.map_append, List.map_singleton, es]
      · rw [decide_eq_false q]
        rw [if_neg q] at hnx
        walk_at "q"
        refine ⟨by decide, st_last ⟨?_, hnx _ ?_⟩⟩
        · have := prs_len (c ++ [b])
          rw [e1, List.length_append, List.length_append, List.length_singleton, List.length_singleton] at this
          rw [List.length_append, List.length_map, List.length_singleton]
          omega
        · rw [e2, List.map_append, List.map_append, List.map_singleton, List.map_singleton]
          rfl
  · rw [hs, List.length_map, List.take_length]
    exact hK
theorem tO_y {c : Prop} [Decidable c] (h : c) {u : (Bool → Prop) → Prop} {K : Bool → Prop} (p : K true) : DL.tOr (decide c) u K := by
  rw [decide_eq_true h]
  exact p
theorem tO_n {c : Prop} [Decidable c] (h : ¬ c) {u : (Bool → Prop) → Prop} {K : Bool → Prop} (p : u K) : DL.tOr (decide c) u K := by
  rw [decide_eq_false h]
  exact p
theorem bI_y {c : Prop} [Decidable c] (h : c) {p q : Prop} (x : p) : bIf (decide c) p q := by
  rw [decide_eq_true h]
  exact x
theorem bI_n {c : Prop} [Decidable c] (h : ¬ c) {p q : Prop} (x : q) : bIf (decide c) p q := by
  rw [decide_eq_false h]
  exact x
theorem bI_t {b : Bool} (h : b = true) {p q : Prop} (x : p) : bIf b p q := by
  subst h
  exact x
theorem bI_f {b : Bool} (h : b = false) {p q : Prop} (x : q) : bIf b p q := by
  subst h
  exact x
theorem bN_t {p q : Prop} (x : q) : bIf (!true) p q := x
theorem crewL_few {rs : List Rl} (ok : RollOk rs) (sh : Str) (h : Int) : (crewL rs sh h).length ≤ 60 := by
  have := crewH_few rs sh h
  have := ok.few
  unfold crewL
  rw [(oS_ord (crewH_nd rs sh h)).1.length_eq]
  omega
theorem nd_rise {l : List Str} (h : l.Pairwise fun a b => strLt a b = true) : l.Nodup := h.imp fun {a b} p e => by rw [e, strLt_irr] at p; cases p
def RowsS (men ss : List Str) (k : Nat) (s : List PyData × List PyData × KVD) : Prop := ∃ (rs : List Rl), MPot s.1 ∧ s.2.1 = rs.map rlD ∧ s.2.2 = rs.map (fun x => (keyR x, PyData.bool true)) ∧ rs.length ≤ k ∧ (∀ x ∈ rs, RlOk x) ∧ (rs.map keyR).Nodup ∧ ∀ x ∈ rs, x.m ∈ men ∧ (x.s ∈ ss ∨ x.s = "")
theorem law_roll_rowS {top : Int} {men : List Str} {ss : List Str} {ranks : PyData} (t0 : 0 ≤ top) (t1 : top ≤ 100000) (m0 : 1 ≤ men.length) (m1 : men.length ≤ 7) (hm : ∀ t ∈ men, goodN t = true) (s0 : 1 ≤ ss.length) (s1 : ss.length ≤ 7) (hs : ∀ t ∈ ss, goodN t = true) (hr : NmL ranks) {k : Nat} (hk : k ≤ 100) {K d s nx bk} (h : RowsS men ss k s) (hnx : ∀ s', RowsS men ss (k + 1) s' → nx (.list (men.map .str), .list (ss.map .str), ranks, .int top) s') :
    qb_law_roll_1 K d (.list (men.map .str), .list (ss.map .str), ranks, .int top) s nx bk := by
  obtain ⟨rr, rfl, r0, r1, hr⟩ := hr
  obtain ⟨pot, rows, told⟩ := s
  obtain ⟨rs, hp, e1, e2, hl, hok, nd, hps⟩ := h
  dsimp only at hp e1 e2
  subst e1 e2
  unfold qb_law_roll_1
  dsimp only
  walk_at "j"
  refine take_q hp (by omega) (by omega) _ fun a pot a0 a1 hp => ?_
  walk_at "j"
  refine pick_mem a0 (by simpa using a1) fun d hd => ?_
  obtain ⟨man, mm, rfl⟩ := List.mem_map.mp hd
  walk_at "j"
  refine take_q hp (by omega) (by omega) _ fun b pot b0 b1 hp => ?_
  refine take_q hp (by omega) (by omega) _ fun c pot c0 c1 hp => ?_
  refine take_q hp (by decide) (by decide) _ fun w pot w0 w1 hp => ?_
  walk_at "j"
  refine pick_mem w0 (by simpa using w1) fun d hd => ?_
  obtain ⟨hour, rfl, h0, h1⟩ : ∃ h : Int, d = .int h ∧ 0 ≤ h ∧ h ≤ 100000 := by
    simp only [List.mem_cons, List.not_mem_nil, or_false] at hd
    rcases hd with rfl | rfl | rfl | rfl <;> exact ⟨_, rfl, by omega, by omega⟩
  walk_at "j"
  refine ⟨by omega, ?_⟩
  refine take_q hp (by omega) (by omega) _ fun e pot e0 e1 hp => ?_
  walk_at "j"
  refine pick_mem e0 (by simp; omega) fun d hd => ?_
  obtain ⟨ship, rfl, hship, hsp⟩ : ∃ x : Str, d = .str x ∧ (goodN x = true ∨ x = "") ∧ (x ∈ ss ∨ x = "") := by
    rcases List.mem_append.mp hd with hd | hd
    · obtain ⟨x, hx, rfl⟩ := List.mem_map.mp hd
      exact ⟨x, rfl, .inl (hs x hx), .inl hx⟩
    · rw [List.mem_singleton.mp hd]
      exact ⟨"", rfl, .inr rfl, .inr rfl⟩
  walk_at "j"
  refine take_q hp (by omega) (by omega) _ fun f pot f0 f1 hp => ?_
  walk_at "j"
  refine pick_mem f0 (by simpa using f1) fun d hd => ?_
  obtain ⟨rank, mr, rfl⟩ := List.mem_map.mp hd
  refine jn_by2 (fun (b : Bool) p => MPot p ∧ (b = true → rs ≠ [])) (fun J hJ => ?_) fun b pot ⟨hp, hb⟩ => ?_
  · refine bIf_of (fun hc => ?_) fun _ => hJ _ _ ⟨hp, fun z => by cases z⟩
    have ne : rs ≠ [] := fun z => by
      rw [z] at hc
      simp at hc
    refine take_q hp (by decide) (by decide) _ fun g pot g0 g1 hp => ?_
    walk_at "j"
    exact hJ _ _ ⟨hp, fun _ => ne⟩
  · refine jn_by2 (fun p row => MPot p ∧ ∃ x, row = rlD x ∧ RlOk x ∧ x.m ∈ men ∧ (x.s ∈ ss ∨ x.s = "")) (fun J hJ => ?_) fun p row ⟨hp, x, ex, hx, hxp⟩ => ?_
    · refine bIf_of (fun hc => ?_) fun _ => hJ _ _ ⟨hp, ⟨man, hour, ship, rank⟩, rfl, ⟨hm man mm, h0, h1, hship, hr rank mr⟩, mm, hsp⟩
      have ne := hb hc
      have lp : 1 ≤ rs.length := List.length_pos_iff.mpr ne
      refine take_q hp (by simp; omega) (by simp; omega) _ fun g pot g0 g1 hp => ?_
      walk_at "j"
      refine pick_mem g0 (by simpa using g1) fun d hd => ?_
      obtain ⟨y, my, rfl⟩ := List.mem_map.mp hd
      have hy := hok y my
      unfold rlD
      walk_at "j"
      have ec : DL.cutD [PyData.str y.m, .int y.h, .str y.s, .str y.r] (some 2) none = [.str y.s, .str y.r] := rfl
      rw [ec]
      walk_at "j"
      try refine ⟨by decide, ?_⟩
      exact hJ _ _ ⟨hp, ⟨man, hour, y.s, y.r⟩, rfl, ⟨hm man mm, h0, h1, hy.s, hy.r⟩, mm, (hps y my).2⟩
    · subst ex
      have ed : rlD x = .tuple [.str x.m, .int x.h, .str x.s, .str x.r] := rfl
      rw [ed]
      have ec : DL.cutD [PyData.str x.m, .int x.h, .str x.s, .str x.r] none (some 2) = [.str x.m, .int x.h] := rfl
      have ek : ktOf (.tuple [.str x.m, .int x.h]) = some (keyR x) := rfl
      walk_at "j"
      rw [ec, q_ink ek]
      walk_at "j"
      have ta := told_at rs (keyR x)
      refine bIf_of (fun c => ?_) fun c => ?_
      · have no : keyR x ∉ rs.map keyR := fun z => by
          rw [ta.mpr z] at c
          cases c
        have n2 : (atD (rs.map fun x => (keyR x, PyData.bool true)) (keyR x)).isSome = false := by
          cases z : (atD (rs.map fun x => (keyR x, PyData.bool true)) (keyR x)).isSome with
          | false => rfl
          | true => exact absurd (ta.mp z) no
        refine ⟨by omega, ?_⟩
        rw [q_put ek]
        refine ⟨by rw [List.length_map]; omega, hnx _ ⟨rs ++ [x], hp, by rw [List.map_append]; rfl, ?_, by simp; omega, fun y hy => ?_, ?_, fun y hy => ?_⟩⟩
        · show putD _ _ _ = _
          unfold putD
          rw [n2, if_neg (by simp), List.map_append]
          rfl
        · rcases List.mem_append.mp hy with hy | hy
          · exact hok y hy
          · rw [List.mem_singleton.mp hy]; exact hx
        · rw [List.map_append, List.map_singleton]
          refine List.nodup_append.mpr ⟨nd, by simp, fun a ha b hb z => ?_⟩
          rw [List.mem_singleton] at hb
          rw [z, hb] at ha
          exact no ha
        · rcases List.mem_append.mp hy with hy | hy
          · exact hps y hy
          · rw [List.mem_singleton.mp hy]; exact hxp
      · exact hnx _ ⟨rs, hp, rfl, rfl, by omega, hok, nd, hps⟩
theorem law_roll_s {most : Int} {xs : List PyData} (hp : MPot xs) (m0 : 0 ≤ most) (m1 : most ≤ 60) (K : PyData → List PyData → Prop)
    (hK : ∀ (rs : List Rl) (men : List Str) (ss : List Str) (ranks : PyData) xs', RollOk rs → (∀ x ∈ rs, x.m ∈ men ∧ (x.s ∈ ss ∨ x.s = "")) → men.Nodup → ss.Nodup → 1 ≤ ss.length → ss.length ≤ 7 → (∀ t ∈ ss, goodN t = true) → (rs.length : Int) ≤ max most 7 → 1 ≤ men.length → men.length ≤ 6 → (∀ t ∈ men, goodN t = true) → NmL ranks → MPot xs' → K (.tuple [rollD rs, .list (men.map .str), .list (ss.map .str), ranks]) xs') : q_law_roll xs (.int most) K := by
  unfold q_law_roll
  refine law_names_q (m := 6) (by decide) (by decide) hp _ fun men xs hm mrise ml m1' hp => ?_
  refine law_names_q (m := 3) (by decide) (by decide) hp _ fun sh xs hs srise sl s1 hp => ?_
  refine law_names_q (m := 4) (by decide) (by decide) hp _ fun ra xs hr _ rl r1 hp => ?_
  walk_at "j"
  refine take_q hp (by decide) (by decide) _ fun a xs a0 a1 hp => ?_
  walk_at "j"
  refine jn_by2 (fun p r => (∃ ss : List Str, p = .list (ss.map .str) ∧ ss.Nodup ∧ 1 ≤ ss.length ∧ ss.length ≤ 7 ∧ ∀ t ∈ ss, goodN t = true) ∧ NmL r) (fun J hJ => ?_) fun ships ranks ⟨⟨ss, ess, snd_, ss0, ss1, hsh⟩, hra⟩ => ?_
  · refine bIf_of (fun _ => hJ _ _ ⟨?_, ?_⟩) fun _ => hJ _ _ ⟨⟨sh, rfl, nd_rise srise, s1, by omega, hs⟩, ⟨ra, rfl, r1, by omega, hr⟩⟩
    · refine ⟨men.take 2, ?_, (nd_rise mrise).sublist (List.take_sublist _ _), by rw [List.length_take]; omega, by rw [List.length_take]; omega, fun t ht => hm t (List.mem_of_mem_take ht)⟩
      rw [show (some (2 : Int)) = some ((2 : Nat) : Int) from rfl]
      unfold DL.cutD
      rw [HT.sIx_none, HT.sIx_nat, List.length_map, List.drop_zero, Nat.sub_zero, List.map_take]
      congr 1
      rcases Nat.le_total 2 men.length with z | z
      · rw [Nat.min_eq_left z]
      · rw [Nat.min_eq_right z, List.take_of_length_le (by rw [List.length_map]; omega), List.take_of_length_le (by rw [List.length_map]; omega)]
    · refine nml_cut (by omega) hm ?_
      unfold DL.cutD HT.sIx
      simp
      omega
  · subst ess
    refine take_q hp (by decide) (by decide) _ fun b xs b0 b1 hp => ?_
    walk_at "j"
    refine pick_mem b0 (by simpa using b1) fun d hd => ?_
    obtain ⟨top, rfl, t0, t1⟩ : ∃ h : Int, d = .int h ∧ 0 ≤ h ∧ h ≤ 100000 := by
      simp only [List.mem_cons, List.not_mem_nil, or_false] at hd
      rcases hd with rfl | rfl | rfl <;> exact ⟨_, rfl, by decide, by decide⟩
    refine take_q hp (by decide) (by decide) _ fun c xs c0 c1 hp => ?_
    walk_at "j"
    refine take_q hp (by omega) (by omega) _ fun e xs e0 e1 hp => ?_
    refine take_q hp (by decide) (by decide) _ fun f xs f0 f1 hp => ?_
    walk_at "j"
    refine pick_mem f0 (by simpa using f1) fun d hd => ?_
    obtain ⟨many, rfl, n0, n1⟩ : ∃ h : Int, d = .int h ∧ 0 ≤ h ∧ h ≤ max most 7 := by
      simp only [List.mem_cons, List.not_mem_nil, or_false] at hd
      rcases hd with rfl | rfl | rfl <;> exact ⟨_, rfl, by omega, by omega⟩
    walk_at "j"
    refine ⟨⟨by omega, by omega⟩, ?_⟩
    refine qFor_range (fun k s => RowsS men ss k s) ⟨[], hp, rfl, rfl, by simp, by simp, by simp, by simp⟩ (fun k s nx hk hs hnx => law_roll_rowS t0 t1 m1' (by omega) hm ss0 ss1 hsh hra (by omega) hs hnx) fun s hs => ?_
    obtain ⟨p, rows, told⟩ := s
    obtain ⟨rs, hp, e1, e2, hl, hok, nd, hps⟩ := hs
    dsimp only at hp e1 e2 ⊢
    subst e1
    exact hK rs men ss ranks p ⟨by omega, hok, nd⟩ hps (nd_rise mrise) snd_ ss0 ss1 hsh (by omega) m1' (by omega) hm hra hp
theorem up_split {h : Int} : ∀ {os : List Rr}, Up os → os = os.filter (fun x => decide (x.h ≤ h)) ++ os.filter (fun x => !decide (x.h ≤ h))
  | [], _ => rfl
  | x :: os, u => by
    obtain ⟨u1, u2⟩ := List.pairwise_cons.mp u
    by_cases c : x.h ≤ h
    · rw [List.filter_cons_of_pos (by simpa using c), List.filter_cons_of_neg (by simpa using c), List.cons_append, ← up_split u2]
    · have none : os.filter (fun x => decide (x.h ≤ h)) = [] := by
        rw [List.filter_eq_nil_iff]
        intro y hy z
        have := u1 y hy
        have z : y.h ≤ h := by simpa using z
        omega
      have all : os.filter (fun x => !decide (x.h ≤ h)) = os := by
        rw [List.filter_eq_self]
        intro y hy
        have := u1 y hy
        simp
        omega
      rw [List.filter_cons_of_neg (by simpa using c), List.filter_cons_of_pos (by simpa using c), none, all]
      rfl
theorem begs_app : ∀ (l2 l1 : List Rr), ∃ rest, begs (l1 ++ l2) = begs l1 ++ rest ∧ ∀ x ∈ rest, x ∈ l2 := fun l2 => by
  refine snocI (P := fun l2 => ∀ l1, ∃ rest, begs (l1 ++ l2) = begs l1 ++ rest ∧ ∀ x ∈ rest, x ∈ l2) (fun l1 => ⟨[], by simp, by simp⟩) (fun l x ih l1 => ?_) l2
  obtain ⟨rest, e, hr⟩ := ih l1
  rw [← List.append_assoc, begs_snoc, e]
  unfold begS
  have hr2 : ∀ y ∈ rest, y ∈ l ++ [x] := fun y hy => List.mem_append_left _ (hr y hy)
  split
  · split
    · exact ⟨rest, rfl, hr2⟩
    · refine ⟨rest ++ [x], by rw [List.append_assoc], fun y hy => ?_⟩
      rcases List.mem_append.mp hy with z | z
      · exact hr2 y z
      · exact List.mem_append_right _ z
  · rename_i z
    have ne : begs l1 ++ rest = [] := List.getLast?_eq_none_iff.mp z
    rw [List.append_eq_nil_iff] at ne
    exact ⟨[x], by rw [ne.1]; rfl, fun y hy => List.mem_append_right _ hy⟩
theorem begs_sub (l : List Rr) : List.Sublist (begs l) l := by
  refine snocI (P := fun l => List.Sublist (begs l) l) (by simp [begs]) (fun l x ih => ?_) l
  rw [begs_snoc]
  unfold begS
  split
  · split
    · exact ih.trans (List.sublist_append_left _ _)
    · exact ih.append (List.Sublist.refl _)
  · exact List.sublist_append_right _ _
/-- the one stay that has an hour -/
def inP (h : Int) (p : Rr × PyData) : Bool := decide (p.1.h ≤ h) && match p.2 with
  | .int e => decide (h < e)
  | _ => true
theorem stay_one {h : Int} : ∀ {bs : List Rr}, Up bs → ((prs bs).filter (inP h)).map (·.1) = ((bs.filter fun x => decide (x.h ≤ h)).getLast?).toList
  | [], _ => rfl
  | [x], _ => by
    by_cases c : x.h ≤ h <;> simp [prs, inP, c, List.filter]
  | x :: y :: r, u => by
    obtain ⟨u1, u2⟩ := List.pairwise_cons.mp u
    have ih := stay_one (h := h) u2
    have xy := u1 y List.mem_cons_self
    rw [prs]
    by_cases c : y.h ≤ h
    · have n : inP h (x, .int y.h) = false := by
        unfold inP
        dsimp only
        rw [decide_eq_false (show ¬ h < y.h by omega), Bool.and_false]
      rw [List.filter_cons_of_neg (by rw [n]; simp), ih, List.filter_cons_of_pos (a := x) (by simp; omega), List.filter_cons_of_pos (a := y) (by simpa using c), List.getLast?_cons_cons]
    · have none : (y :: r).filter (fun x => decide (x.h ≤ h)) = [] := by
        rw [List.filter_eq_nil_iff]
        intro z hz q
        have q : z.h ≤ h := by simpa using q
        rcases List.mem_cons.mp hz with rfl | hz
        · exact c q
        · have := (List.pairwise_cons.mp u2).1 z hz
          omega
      rw [none] at ih
      have ihn : (prs (y :: r)).filter (inP h) = [] := by
        have : ((prs (y :: r)).filter (inP h)).map (·.1) = [] := ih
        exact List.map_eq_nil_iff.mp this
      by_cases d : x.h ≤ h
      · have p : inP h (x, .int y.h) = true := by
          unfold inP
          dsimp only
          rw [decide_eq_true (show h < y.h by omega), decide_eq_true d]
          rfl
        rw [List.filter_cons_of_pos (by exact p), ihn, List.filter_cons_of_pos (a := x) (by simpa using d), none]
        rfl
      · have n : inP h (x, .int y.h) = false := by
          unfold inP
          dsimp only
          rw [decide_eq_false d]
          rfl
        rw [List.filter_cons_of_neg (by rw [n]; simp), ihn, List.filter_cons_of_neg (a := x) (by simpa using d), none]
        rfl
theorem begs_filter {os : List Rr} {h : Int} (u : Up os) : (begs os).filter (fun x => decide (x.h ≤ h)) = begs (os.filter fun x => decide (x.h ≤ h)) := by
  obtain ⟨rest, e, hr⟩ := begs_app (os.filter fun x => !decide (x.h ≤ h)) (os.filter fun x => decide (x.h ≤ h))
  rw [← up_split u] at e
  rw [e, List.filter_append]
  have h1 : (begs (os.filter fun x => decide (x.h ≤ h))).filter (fun x => decide (x.h ≤ h)) = begs (os.filter fun x => decide (x.h ≤ h)) := by
    rw [List.filter_eq_self]
    intro x hx
    have := begs_mem _ x hx
    exact (List.mem_filter.mp this).2
  have h2 : rest.filter (fun x => decide (x.h ≤ h)) = [] := by
    rw [List.filter_eq_nil_iff]
    intro x hx z
    have := (List.mem_filter.mp (hr x hx)).2
    rw [z] at this
    cases this
  rw [h1, h2, List.append_nil]
/-- a man's stays that have an hour: where he stands then -/
theorem stays_at {os : List Rr} {h : Int} (u : Up os) : (((prs (begs os)).filter (inP h)).map fun p => (p.1.s, p.1.r)) = (stand (os.filter fun x => decide (x.h ≤ h))).toList.map fun v => (v.1, v.2.1) := by
  have e := stay_one (h := h) (bs := begs os) (List.Pairwise.sublist (begs_sub os) u)
  rw [begs_filter u] at e
  have e2 : (((prs (begs os)).filter (inP h)).map fun p => (p.1.s, p.1.r)) = (((prs (begs os)).filter (inP h)).map (·.1)).map fun x => (x.s, x.r) := by rw [List.map_map]; rfl
  rw [e2, e]
  generalize os.filter (fun x => decide (x.h ≤ h)) = l
  rcases List.eq_nil_or_concat l with rfl | ⟨l, x, rfl⟩
  · rfl
  · rw [List.concat_eq_append]
    obtain ⟨b, hb, h1, h2⟩ := begs_last l x
    rw [hb, stand_snoc]
    unfold stNext
    simp [h1, h2]
theorem up_two {l1 l2 : List Rr} {h : Int} (h1 : ∀ x ∈ l1, x.h ≤ h) (h2 : ∀ x ∈ l2, h < x.h) (g : Int) (hg : g < h) (x : Rr) (hx : x.h = h) : (l1 ++ x :: l2).filter (fun y => decide (y.h ≤ g)) = (l1 ++ l2).filter fun y => decide (y.h ≤ g) := by
  rw [List.filter_append, List.filter_append, List.filter_cons_of_neg (by simp; omega)]
theorem stand_app (l1 l2 : List Rr) : stand (l1 ++ l2) = l2.foldl stNext (stand l1) := by
  unfold stand
  rw [List.foldl_append]
theorem st_same {o : Option (Str × Str × Int)} {x : Rr} {n : Int} (h : o = some (x.s, x.r, n)) : stNext o x = o := by
  subst h
  unfold stNext
  simp
theorem stand_put {l1 l2 : List Rr} {x : Rr} {n : Int} (h : stand l1 = some (x.s, x.r, n)) : stand (l1 ++ x :: l2) = stand (l1 ++ l2) := by
  rw [stand_app, stand_app, List.foldl_cons, st_same h]
theorem begs_put {l1 l2 : List Rr} {x : Rr} {n : Int} (h : stand l1 = some (x.s, x.r, n)) : begs (l1 ++ x :: l2) = begs (l1 ++ l2) := by
  have e : begs (l1 ++ [x]) = begs l1 := by
    rcases List.eq_nil_or_concat l1 with rfl | ⟨l, y, rfl⟩
    · cases h
    · rw [List.concat_eq_append] at h ⊢
      rw [stand_snoc] at h
      unfold stNext at h
      injection h with h
      injection h with a h
      injection h with b _
      obtain ⟨z, hz, z1, z2⟩ := begs_last l y
      rw [begs_snoc]
      unfold begS
      rw [hz]
      dsimp only
      rw [if_pos ⟨z1.trans a, z2.trans b⟩]
  have e2 : l1 ++ x :: l2 = (l1 ++ [x]) ++ l2 := by simp
  unfold begs at e ⊢
  rw [e2, List.foldl_append, e, List.foldl_append]
/-- a man's rows with one more among them -/
theorem put_sorts {rs qs : List Rl} {x : Rl} (p : qs.Perm (x :: rs)) {os : List Rr} (so : SortsTo rs x.m os) (new : ∀ y ∈ os, y.h ≠ x.h) : SortsTo qs x.m (os.filter (fun y => decide (y.h ≤ x.h)) ++ cutR x :: os.filter (fun y => !decide (y.h ≤ x.h))) := by
  have sp := up_split (h := x.h) so.1
  constructor
  · have u := so.1
    rw [sp] at u
    unfold Up at u ⊢
    rw [List.pairwise_append] at u ⊢
    obtain ⟨u1, u2, u3⟩ := u
    refine ⟨u1, List.pairwise_cons.mpr ⟨fun y hy => ?_, u2⟩, fun a ha b hb => ?_⟩
    · have := (List.mem_filter.mp hy).2
      show x.h < y.h
      simp at this
      omega
    · rcases List.mem_cons.mp hb with rfl | hb
      · obtain ⟨a1, a2⟩ := List.mem_filter.mp ha
        have := new a a1
        show a.h < x.h
        simp at a2
        omega
      · exact u3 a ha b hb
  · have e : (rowsM qs x.m).Perm (cutR x :: rowsM rs x.m) := by
      have := rows_perm p x.m
      have e2 : rowsM (x :: rs) x.m = cutR x :: rowsM rs x.m := by
        unfold rowsM
        rw [List.filter_cons_of_pos (by simp), List.map_cons]
      rwa [e2] at this
    refine List.Perm.trans ?_ e.symm
    refine List.perm_middle.trans (List.Perm.cons _ ?_)
    rw [← sp]
    exact so.2
theorem put_other {rs qs : List Rl} {x : Rl} (p : qs.Perm (x :: rs)) {m : Str} (hm : m ≠ x.m) {os : List Rr} (so : SortsTo rs m os) : SortsTo qs m os := by
  refine ⟨so.1, so.2.trans ?_⟩
  have := rows_perm p m
  have e2 : rowsM (x :: rs) m = rowsM rs m := by
    unfold rowsM
    rw [List.filter_cons_of_neg (by simpa using fun z => hm z.symm)]
  rw [e2] at this
  exact this.symm
theorem perm_few {α : Type} {l : List α} {o : Option α} (p : l.Perm o.toList) : l = o.toList := by
  cases o with
  | none => exact p.eq_nil
  | some x => exact List.perm_singleton.mp p
theorem fm_pick {f : Str → Option Hd} (hf : ∀ m x, f m = some x → x.m = m) {man : Str} : ∀ {l : List Str}, l.Nodup → (l.filterMap f).filter (fun x => decide (x.m = man)) = if man ∈ l then (f man).toList else []
  | [], _ => rfl
  | a :: l, nd => by
    obtain ⟨n1, n2⟩ := List.nodup_cons.mp nd
    have ih := fm_pick hf (man := man) n2
    by_cases e : a = man
    · subst e
      rw [if_neg n1] at ih
      rw [if_pos List.mem_cons_self]
      cases q : f a with
      | none => rw [List.filterMap_cons_none q, ih]; rfl
      | some x => rw [List.filterMap_cons_some q, List.filter_cons_of_pos (by simpa using hf a x q), ih]; rfl
    · have e2 : (man ∈ a :: l) ↔ man ∈ l := by rw [List.mem_cons]; exact ⟨fun z => z.elim (fun y => absurd y.symm e) id, .inr⟩
      simp only [e2]
      cases q : f a with
      | none => rw [List.filterMap_cons_none q, ih]
      | some x => rw [List.filterMap_cons_some q, List.filter_cons_of_neg (by rw [hf a x q]; simpa using e), ih]
theorem std_none {rs : List Rl} (ok : RollOk rs) {m : Str} (hm : m ∉ rs.map (·.m)) (h : Int) : stdR rs m h = none := by
  obtain ⟨os, so⟩ := sort_ex ok m
  have e : rowsM rs m = [] := by
    unfold rowsM
    rw [List.map_eq_nil_iff, List.filter_eq_nil_iff]
    intro x hx z
    exact hm (List.mem_map.mpr ⟨x, hx, by simpa using z⟩)
  have : os = [] := by
    have := so.2
    rw [e] at this
    exact this.eq_nil
  subst this
  unfold stdR
  rw [sortR_eq so (.refl _)]
  rfl
theorem menS_all {rs : List Rl} {m : Str} (few : rs.length ≤ 60) (hex : ∃ ms : List Str, ms.Pairwise (fun a b => strLt a b = true) ∧ ∀ k, k ∈ ms ↔ k ∈ rs.map (·.m)) : m ∈ menS rs ↔ m ∈ rs.map (·.m) := by
  obtain ⟨ms, u, h⟩ := hex
  rw [menS_eq u h, h]
theorem sort_strs {l : List Str} (nd : l.Nodup) : ∃ os : List Str, sortD (l.map .str) = os.map .str ∧ (os.Pairwise fun a b => strLt a b = true) ∧ os.Perm l := by
  obtain ⟨os, e, p⟩ := map_perm (sortD_perm (l.map PyData.str))
  refine ⟨os, e, ?_, p⟩
  have pw := sortD_pair (l.map PyData.str)
  rw [e, List.pairwise_map] at pw
  refine (pw.and (p.nodup_iff.mpr nd)).imp fun {a b} ⟨h1, h2⟩ => ?_
  have : PySem.W.dataLe false id (PyData.str a) (PyData.str b) = !PySem.W.dataLt (.str b) (.str a) := rfl
  rw [this, PySem.W.dataLt_str, Bool.not_eq_true'] at h1
  exact strLt_or (by rw [strLt_eq]; exact h1) h2
theorem men_ex (rs : List Rl) : ∃ ms : List Str, ms.Pairwise (fun a b => strLt a b = true) ∧ ∀ k, k ∈ ms ↔ k ∈ rs.map (·.m) := by
  obtain ⟨os, _, up, pm⟩ := sort_strs (dd_nodup (rs.map (·.m)) [] List.nodup_nil)
  exact ⟨os, up, fun k => by rw [pm.mem_iff, dd_mem]; simp⟩
theorem crew_pick {rs : List Rl} (ok : RollOk rs) (sh man : Str) (h : Int) : (crewL rs sh h).filter (fun x => decide (x.m = man)) = (pickH sh man (stdR rs man h)).toList := by
  refine perm_few ?_
  have p : (crewL rs sh h).Perm (crewH rs sh h) := (oS_ord (crewH_nd rs sh h)).1
  refine (p.filter _).trans ?_
  unfold crewH
  rw [fm_pick (fun m x e => (pickH_some e).1) (menS_nd rs)]
  by_cases z : man ∈ menS rs
  · rw [if_pos z]
  · rw [if_neg z, std_none ok (fun q => z ((menS_all ok.few (men_ex rs)).mpr q))]
    exact .refl _
theorem fm_congr {α β : Type} {f g : α → Option β} : ∀ {l : List α}, (∀ x ∈ l, f x = g x) → l.filterMap f = l.filterMap g
  | [], _ => rfl
  | a :: l, h => by
    have ih := fm_congr (l := l) fun x hx => h x (List.mem_cons_of_mem _ hx)
    have e := h a List.mem_cons_self
    cases q : f a with
    | none => rw [List.filterMap_cons_none q, List.filterMap_cons_none (by rw [← e]; exact q), ih]
    | some b => rw [List.filterMap_cons_some q, List.filterMap_cons_some (by rw [← e]; exact q), ih]
theorem nd_map {α β : Type} {f : α → β} : ∀ {l : List α}, l.Nodup → (∀ x ∈ l, ∀ y ∈ l, f x = f y → x = y) → (l.map f).Nodup
  | [], _, _ => List.nodup_nil
  | a :: l, nd, h => by
    obtain ⟨n1, n2⟩ := List.nodup_cons.mp nd
    rw [List.map_cons, List.nodup_cons]
    refine ⟨fun z => ?_, nd_map n2 fun x hx y hy => h x (List.mem_cons_of_mem _ hx) y (List.mem_cons_of_mem _ hy)⟩
    obtain ⟨b, hb, e⟩ := List.mem_map.mp z
    have := h b (List.mem_cons_of_mem _ hb) a List.mem_cons_self e
    rw [this] at hb
    exact n1 hb
def renR (f : Str → Str) (x : Rl) : Rl := ⟨f x.m, x.h, x.s, x.r⟩
def renH (f : Str → Str) (x : Hd) : Hd := ⟨f x.m, x.r, x.n⟩
structure Ren (rs : List Rl) (f : Str → Str) : Prop where
  good : ∀ x ∈ rs, goodN (f x.m) = true
  inj : ∀ x ∈ rs, ∀ y ∈ rs, f x.m = f y.m → x.m = y.m
theorem Ren.ok {rs : List Rl} {f : Str → Str} (h : Ren rs f) (ok : RollOk rs) : RollOk (rs.map (renR f)) := by
  refine ⟨by rw [List.length_map]; exact ok.few, fun x hx => ?_, ?_⟩
  · obtain ⟨y, hy, rfl⟩ := List.mem_map.mp hx
    have := ok.ok y hy
    exact ⟨h.good y hy, this.h0, this.h1, this.s, this.r⟩
  · rw [List.map_map]
    have one := ok.one
    have : ∀ l : List Rl, (∀ x ∈ l, x ∈ rs) → (l.map keyR).Nodup → (l.map (keyR ∘ renR f)).Nodup := by
      intro l
      induction l with
      | nil => intro _ _; exact List.nodup_nil
      | cons a l ih =>
        intro hl nd
        obtain ⟨n1, n2⟩ := List.nodup_cons.mp nd
        rw [List.map_cons, List.nodup_cons]
        refine ⟨fun z => ?_, ih (fun x hx => hl x (List.mem_cons_of_mem _ hx)) n2⟩
        obtain ⟨b, hb, e⟩ := List.mem_map.mp z
        have e : ([.inr (f b.m), .inl b.h] : List Key) = [.inr (f a.m), .inl a.h] := e
        injection e with e1 e
        injection e with e2 _
        injection e1 with e1
        injection e2 with e2
        have := h.inj b (hl b (List.mem_cons_of_mem _ hb)) a (hl a List.mem_cons_self) e1
        exact n1 (List.mem_map.mpr ⟨b, hb, by unfold keyR; rw [this, e2]⟩)
    exact this rs (fun _ h => h) one
theorem Ren.rows {rs : List Rl} {f : Str → Str} (h : Ren rs f) {m : Str} (hm : m ∈ rs.map (·.m)) : rowsM (rs.map (renR f)) (f m) = rowsM rs m := by
  obtain ⟨y, hy, rfl⟩ := List.mem_map.mp hm
  unfold rowsM
  rw [List.filter_map, List.map_map]
  have e1 : rs.filter ((fun x : Rl => decide (x.m = f y.m)) ∘ renR f) = rs.filter fun x => decide (x.m = y.m) := by
    refine List.filter_congr fun x hx => ?_
    show decide (f x.m = f y.m) = decide (x.m = y.m)
    by_cases e : x.m = y.m
    · rw [e]
      simp
    · rw [decide_eq_false e, decide_eq_false fun z => e (h.inj x hx y hy z)]
  rw [e1]
  rfl
theorem Ren.std {rs : List Rl} {f : Str → Str} (h : Ren rs f) (ok : RollOk rs) {m : Str} (hm : m ∈ rs.map (·.m)) (hr : Int) : stdR (rs.map (renR f)) (f m) hr = stdR rs m hr := by
  obtain ⟨os, so⟩ := sort_ex ok m
  have so' : SortsTo (rs.map (renR f)) (f m) os := ⟨so.1, by rw [h.rows hm]; exact so.2⟩
  unfold stdR
  rw [sortR_eq so (.refl _), sortR_eq so' (.refl _)]
theorem menS_iff (rs : List Rl) (m : Str) : m ∈ menS rs ↔ m ∈ rs.map (·.m) := by
  obtain ⟨ms, u, h⟩ := men_ex rs
  rw [menS_eq u h, h]
theorem Ren.crew {rs : List Rl} {f : Str → Str} (h : Ren rs f) (ok : RollOk rs) (sh : Str) (hr : Int) : (crewL (rs.map (renR f)) sh hr).Perm ((crewL rs sh hr).map (renH f)) := by
  have p1 : (crewL (rs.map (renR f)) sh hr).Perm (crewH (rs.map (renR f)) sh hr) := (oS_ord (crewH_nd _ sh hr)).1
  have p2 : (crewL rs sh hr).Perm (crewH rs sh hr) := (oS_ord (crewH_nd rs sh hr)).1
  refine p1.trans (List.Perm.trans ?_ (p2.map _).symm)
  have mp : (menS (rs.map (renR f))).Perm ((menS rs).map f) := nodup_perm (menS_nd _) (nd_map (menS_nd rs) fun x hx y hy e => by
    obtain ⟨a, ha, rfl⟩ := List.mem_map.mp ((menS_iff rs x).mp hx)
    obtain ⟨b, hb, rfl⟩ := List.mem_map.mp ((menS_iff rs y).mp hy)
    exact h.inj a ha b hb e) fun m => by
    rw [menS_iff, List.map_map, List.mem_map, List.mem_map]
    constructor
    · rintro ⟨x, hx, rfl⟩
      exact ⟨x.m, (menS_iff rs x.m).mpr (List.mem_map.mpr ⟨x, hx, rfl⟩), rfl⟩
    · rintro ⟨k, hk, rfl⟩
      obtain ⟨x, hx, rfl⟩ := List.mem_map.mp ((menS_iff rs k).mp hk)
      exact ⟨x, hx, rfl⟩
  unfold crewH
  refine (mp.filterMap _).trans ?_
  rw [List.filterMap_map, List.map_filterMap]
  rw [fm_congr (g := fun m => (pickH sh m (stdR rs m hr)).map (renH f)) fun m hm => ?_]
  show pickH sh (f m) (stdR (rs.map (renR f)) (f m) hr) = _
  rw [h.std ok ((menS_iff rs m).mp hm)]
  cases stdR rs m hr with
  | none => rfl
  | some v =>
    obtain ⟨s, r, n⟩ := v
    unfold pickH
    dsimp only
    by_cases e : s = sh
    · rw [if_pos e, if_pos e]; rfl
    · rw [if_neg e, if_neg e]; rfl
theorem riseH_uniq : ∀ {l m : List Hd}, l.Pairwise (fun a b => strLt a.m b.m = true) → m.Pairwise (fun a b => strLt a.m b.m = true) → l.Perm m → l = m
  | [], m, _, _, p => p.nil_eq
  | a :: l, [], _, _, p => absurd p.symm.nil_eq (by simp)
  | a :: l, b :: m, hl, hm, p => by
    obtain ⟨l1, l2⟩ := List.pairwise_cons.mp hl
    obtain ⟨m1, m2⟩ := List.pairwise_cons.mp hm
    have e : a = b := by
      rcases List.mem_cons.mp (p.mem_iff.mp List.mem_cons_self) with z | z
      · exact z
      · rcases List.mem_cons.mp (p.mem_iff.mpr (List.mem_cons_self (a := b) (l := m))) with y | y
        · exact y.symm
        · have := strLt_trans (m1 a z) (l1 b y)
          rw [strLt_irr] at this
          cases this
    subst e
    rw [riseH_uniq l2 m2 (List.Perm.cons_inv p)]
theorem sort_hdD {hs : List Hd} (nd : (hs.map (·.m)).Nodup) : ∃ os : List Hd, sortD (hs.map hdD) = os.map hdD ∧ os.Perm hs ∧ os.Pairwise fun a b => strLt a.m b.m = true := by
  obtain ⟨os, e, p⟩ := map_perm (sortD_perm (hs.map hdD))
  refine ⟨os, e, p, ?_⟩
  have pw := sortD_pair (hs.map hdD)
  rw [e, List.pairwise_map] at pw
  have ndo := (p.map (·.m)).nodup_iff.mpr nd
  rw [List.Nodup, List.pairwise_map] at ndo
  refine (pw.and ndo).imp fun {a b} ⟨h, hne⟩ => ?_
  have : PySem.W.dataLe false id (hdD a) (hdD b) = !PySem.W.dataLt (hdD b) (hdD a) := rfl
  rw [this, Bool.not_eq_true'] at h
  unfold hdD at h
  rw [PySem.W.dataLt_tuple, PySem.W.dataLt_cons (by simp [PySem.W.alike]), PySem.W.dataLt_str] at h
  have e2 : PyData.eqv (.str b.m) (.str a.m) = false := by
    simp only [PyData.eqv, beq_eq_false_iff_ne]
    exact fun k => hne k.symm
  rw [e2] at h
  simp only [Bool.false_eq_true, if_false] at h
  exact strLt_or (by rw [strLt_eq]; exact h) hne
theorem sort_ok_hdD (l : List Hd) : sortOk (l.map hdD) := by
  refine ⟨PySem.W.AllAlike.of fun a b => by simp [hdD, PySem.W.alike, PySem.W.alikeAll], PySem.W.Sortable.tuples fun b => ⟨_, _, rfl⟩, fun d hd => ?_, ?_⟩
  · obtain ⟨x, _, rfl⟩ := List.mem_map.mp hd
    simp [hdD, PyData.depth, PyData.depthAll]
  · induction l with
    | nil => rfl
    | cons a l ih => rw [List.map_cons, PyData.hasDictAll, ih]; rfl
theorem sort_same {hs gs : List Hd} (nd : (hs.map (·.m)).Nodup) (p : gs.Perm hs) : sortD (gs.map hdD) = sortD (hs.map hdD) := by
  obtain ⟨os, e1, p1, u1⟩ := sort_hdD nd
  obtain ⟨us, e2, p2, u2⟩ := sort_hdD ((p.map (·.m)).nodup_iff.mpr nd)
  rw [e1, e2, riseH_uniq u2 u1 (p2.trans (p.trans p1.symm))]
theorem eqD_str2 {a b : Str} : eqD (.str a) (.str b) = decide (a = b) := by
  rw [eqD_eq, PyData.eqv]
  by_cases h : a = b
  · rw [decide_eq_true h]
    exact beq_iff_eq.mpr h
  · rw [decide_eq_false h]
    exact beq_eq_false_iff_ne.mpr h
theorem shp_str {x : Str} (h : goodN x = true) : SeqAt.shaped (.str x) = true := by
  have := canLay_strs (l := [x]) fun y hy => by rw [List.mem_singleton.mp hy]; exact h
  rw [List.map_cons, PyData.canLayAll0, Bool.and_eq_true] at this
  unfold SeqAt.shaped
  rw [this.1, PyData.depth]
  rfl
theorem find_str (l : List Str) (m : Str) : (l.map PyData.str).findIdx? (fun z => eqD z (.str m)) = l.findIdx? fun z => decide (z = m) := by
  rw [List.findIdx?_map]
  congr 1
  funext z
  exact eqD_str2
def idxM (l : List Str) (m : Str) : Nat := (l.findIdx? fun z => decide (z = m)).getD 0
theorem idx_strs {l : List Str} {m : Str} (hg : ∀ x ∈ l, goodN x = true) (hm : m ∈ l) {P : PyData → Prop} (h : P (.int (idxM l m : Nat))) : idxQ (l.map .str) (.str m) P := by
  refine ⟨⟨shaped_strs hg, ?_⟩, ?_⟩
  · exact shp_str (hg m hm)
  · rw [find_str]
    unfold idxM at h
    cases e : l.findIdx? fun z => decide (z = m) with
    | none =>
      have := List.findIdx?_eq_none_iff.mp e m hm
      simp at this
    | some j =>
      rw [e] at h
      exact h
theorem crew_one {ss : List Str} (nd : ss.Nodup) (f : Str → List PyData) {s0 : Str} (h : ∀ s ∈ ss, s ≠ s0 → f s = []) : ss.flatMap f = if s0 ∈ ss then f s0 else [] := by
  induction ss with
  | nil => rfl
  | cons a l ih =>
    obtain ⟨n1, n2⟩ := List.nodup_cons.mp nd
    have ih := ih n2 fun s hs => h s (List.mem_cons_of_mem _ hs)
    rw [List.flatMap_cons, ih]
    by_cases e : a = s0
    · subst e
      rw [if_neg n1, if_pos List.mem_cons_self, List.append_nil]
    · rw [h a List.mem_cons_self e, List.nil_append]
      have : (s0 ∈ a :: l) ↔ s0 ∈ l := by rw [List.mem_cons]; exact ⟨fun z => z.elim (fun y => absurd y.symm e) id, .inr⟩
      simp only [this]
noncomputable def foundL (rs : List Rl) (man : Str) (h : Int) (s : Str) : List PyData := ((pickH s man (stdR rs man h)).toList).map fun x => .tuple [.str s, hdD x]
theorem std_row {rs : List Rl} (ok : RollOk rs) {m s r : Str} {n h : Int} (e : stdR rs m h = some (s, r, n)) : (∃ x ∈ rs, x.m = m ∧ x.s = s ∧ x.r = r) ∧ n ≤ h := by
  obtain ⟨os, so⟩ := sort_ex ok m
  unfold stdR at e
  rw [sortR_eq so (.refl _)] at e
  constructor
  · rcases List.eq_nil_or_concat (os.filter fun x => decide (x.h ≤ h)) with z | ⟨l, x, z⟩
    · rw [z] at e; cases e
    · rw [z, List.concat_eq_append, stand_snoc] at e
      unfold stNext at e
      injection e with e
      injection e with e1 e
      injection e with e2 _
      have hx : x ∈ os.filter fun x => decide (x.h ≤ h) := by rw [z, List.concat_eq_append]; simp
      have hx := so.2.mem_iff.mp (List.mem_filter.mp hx).1
      unfold rowsM at hx
      obtain ⟨y, hy, rfl⟩ := List.mem_map.mp hx
      obtain ⟨h1, h2⟩ := List.mem_filter.mp hy
      exact ⟨y, h1, by simpa using h2, e1, e2⟩
  · exact (stand_ok (Q := fun _ => True) (R := fun k => k ≤ h) (fun x hx => ⟨trivial, by simpa using (List.mem_filter.mp hx).2⟩) (fun _ _ _ z => by cases z) e).2
theorem prs_ends : ∀ (l : List Rr) (p : Rr × PyData), p ∈ prs l → p.2 = .none ∨ ∃ i : Int, p.2 = .int i
  | [], _, h => by cases h
  | [x], p, h => by rw [List.mem_singleton.mp h]; exact .inl rfl
  | x :: y :: r, p, h => by
    rw [prs] at h
    rcases List.mem_cons.mp h with rfl | h
    · exact .inr ⟨_, rfl⟩
    · exact prs_ends (y :: r) p h
theorem shp_one {s r : Str} (h1 : PyData.strOk s = true) (h2 : PyData.strOk r = true) : SeqAt.shaped (.list [.tuple [.str s, .str r]]) = true := by
  unfold SeqAt.shaped
  rw [Bool.and_eq_true, decide_eq_true_eq]
  exact ⟨by simp [PyData.canLay0, PyData.canLayAll0, h1, h2], by simp [PyData.depth, PyData.depthAll]⟩
theorem shp_two {s r m : Str} {n : Int} (h1 : PyData.strOk s = true) (h2 : PyData.strOk r = true) (h3 : PyData.strOk m = true) : SeqAt.shaped (.list [.tuple [.str s, .tuple [.str m, .str r, .int n]]]) = true := by
  unfold SeqAt.shaped
  rw [Bool.and_eq_true, decide_eq_true_eq]
  exact ⟨by simp [PyData.canLay0, PyData.canLayAll0, h1, h2, h3], by simp [PyData.depth, PyData.depthAll]⟩
theorem q_isN_t {xs : List PyData} {P : PyData → Prop} : oIsN (.tuple xs) P = P (.bool false) := rfl
theorem q_isN_n {P : PyData → Prop} : oIsN .none P = P (.bool true) := rfl
theorem ix_t0 {s r : Str} {n : Int} {P : PyData → Prop} (h : P (.str s)) : oIx (.tuple [.str s, .str r, .int n]) (.int 0) P := by
  walk_at "q"
  exact h
theorem ix_t1 {s r : Str} {n : Int} {P : PyData → Prop} (h : P (.str r)) : oIx (.tuple [.str s, .str r, .int n]) (.int 1) P := by
  walk_at "q"
  exact h
theorem ix_t2 {s r : Str} {n : Int} {P : PyData → Prop} (h : P (.int n)) : oIx (.tuple [.str s, .str r, .int n]) (.int 2) P := by
  walk_at "q"
  exact h
theorem one_right_t {rs : List Rl} (ok : RollOk rs) {ss : List Str} (nds : ss.Nodup) (s7 : ss.length ≤ 7) (hsg : ∀ t ∈ ss, goodN t = true) (hsh : ∀ x ∈ rs, x.s ∈ ss ∨ x.s = "") {m : Str} (hm : goodN m = true) {h : Int} (h0 : 0 ≤ h) (h1 : h ≤ 100000) (K : PyData → Prop) (hK : K (.bool true)) : q_law_one_right (rollD rs) (.list (ss.map .str)) (.str m) (.int h) K := by
  obtain ⟨os, so⟩ := sort_ex ok m
  have es : stdR rs m h = stand (os.filter fun x => decide (x.h ≤ h)) := by unfold stdR; rw [sortR_eq so (.refl _)]
  unfold q_law_one_right
  refine where_t ok hm h0 h1 so _ ?_
  rw [← es]
  walk_at "j"
  refine qFor_ind (fun k s => s = (ss.take k).flatMap (foundL rs m h)) rfl (fun k d s nx hd hs hnx => ?_) fun s hs => ?_
  · subst hs
    rw [List.getElem?_map] at hd
    obtain ⟨sh, hk, rfl⟩ := Option.map_eq_some_iff.mp hd
    have tk : (ss.take (k + 1)).flatMap (foundL rs m h) = (ss.take k).flatMap (foundL rs m h) ++ foundL rs m h sh := by
      rw [List.take_add_one, hk, List.flatMap_append]
      simp
    rw [tk] at hnx
    have gl : ∀ l : List Str, (l.flatMap (foundL rs m h)).length ≤ l.length := fun l => by
      induction l with
      | nil => simp
      | cons a l ih =>
        rw [List.flatMap_cons, List.length_append, List.length_cons]
        have : (foundL rs m h a).length ≤ 1 := by
          unfold foundL
          rw [List.length_map]
          cases pickH a m (stdR rs m h) <;> simp
        omega
    have g1 := gl (ss.take k)
    have g2 := gl (ss.take (k + 1))
    rw [tk, List.length_append] at g2
    rw [List.length_take] at g1 g2
    unfold qb_law_one_right_1
    refine crew_at_t ok (hsg sh (List.mem_of_getElem? hk)) h0 h1 _ ?_
    have cf := crewL_few ok sh h
    unfold crewD
    walk_at "q"
    refine qLc_selB (xs := crewL rs sh h) (D := hdD) (fun x => .tuple [.str sh, hdD x]) (fun x => decide (x.m = m)) (by omega) (fun x hx sk yd hy hsk => ?_) ?_
    · unfold qb_law_one_right_2
      have ed : hdD x = .tuple [.str x.m, .str x.r, .int x.n] := rfl
      rw [ed] at hy ⊢
      walk_at "q"
      refine bIf_d (fun c => hy (decide_eq_true c)) fun c => hsk (decide_eq_false c)
    · rw [crew_pick ok]
      show exQ _ (foundL rs m h sh) _
      rw [q_ex]
      refine ⟨by omega, hnx _ rfl⟩
  · subst hs
    rw [List.length_map, List.take_length]
    have st := stays_at (h := h) so.1
    rw [← es] at st
    have tail : q_stays_of (rollD rs) (.str m) fun s29 => itemsQ s29 fun l30 => qLc qb_law_one_right_3 (rollD rs, .str m, .int h, stD (stdR rs m h)) l30 [] () fun l44 s46 => oIsN (stD (stdR rs m h)) fun t47 => bT t47 fun b48 => bIf b48 (K (.bool l44.isEmpty)) (qLc qb_law_one_right_4 (.int h, stD (stdR rs m h), .list l44) l44 [] () fun l51 s53 => oSl (stD (stdR rs m h)) none (some 2) fun l54 => oEq (.list l51) (.list [l54]) fun t55 => bT t55 fun b56 => vAnd b56 (fun k59 => oIx (stD (stdR rs m h)) (.int 2) fun t57 => oLe t57 (.int h) fun t58 => k59 t58) fun t60 => K t60) := by
      refine stays_t ok hm so _ ?_
      walk_at "q"
      have lb : (prs (begs os)).length ≤ 100000 := by
        have := begs_len os
        have := sorts_lenR ok so
        rw [prs_len]
        omega
      refine qLc_selB (xs := prs (begs os)) (D := stP) stP (inP h) lb (fun p hp sk yd hy hsk => ?_) ?_
      · unfold qb_law_one_right_3
        obtain ⟨b, e⟩ := p
        have ends : e = .none ∨ ∃ i : Int, e = .int i := prs_ends _ _ hp
        rw [show stP (b, e) = .tuple [.int b.h, e, .str b.s, .str b.r] from rfl] at hy ⊢
        rcases ends with rfl | ⟨i, rfl⟩
        · have ei : inP h (b, .none) = decide (b.h ≤ h) := by unfold inP; rw [Bool.and_true]
          rw [ei] at hy hsk
          walk_at "q"
          cases q : decide (b.h ≤ h) with
          | true => exact hy q
          | false => exact hsk q
        · have ei : inP h (b, .int i) = (decide (b.h ≤ h) && decide (h < i)) := rfl
          rw [ei] at hy hsk
          walk_at "q"
          cases q : (decide (b.h ≤ h) && decide (h < i)) with
          | true => exact hy q
          | false => exact hsk q
      · have sl : ((prs (begs os)).filter (inP h)).length ≤ 1000 := by
          have := List.length_filter_le (inP h) (prs (begs os))
          have := begs_len os
          have := sorts_lenR ok so
          rw [prs_len] at *
          omega
        generalize (prs (begs os)).filter (inP h) = L at st sl ⊢
        cases eo : stdR rs m h with
        | none =>
          rw [eo] at st
          have : L = [] := List.map_eq_nil_iff.mp st
          subst this
          unfold stD
          walk_at "q"
          exact hK
        | some v =>
          obtain ⟨s, r, n⟩ := v
          rw [eo] at st
          obtain ⟨⟨x, hx, _, xs_, xr⟩, nh⟩ := std_row ok eo
          have t1 : PyData.strOk s = true := by rw [← xs_]; exact txt_of (ok.ok x hx).s
          have t2 : PyData.strOk r = true := by rw [← xr]; exact txt_of (.inl (ok.ok x hx).r)
          obtain ⟨p, rfl⟩ : ∃ p, L = [p] := by
            match L, st with
            | [], st => cases st
            | [p], _ => exact ⟨p, rfl⟩
            | p :: q :: r, st => simp at st
          obtain ⟨b, e⟩ := p
          have sb : (b.s, b.r) = (s, r) := by
            have : [(b.s, b.r)] = [(s, r)] := st
            injection this
          injection sb with sb1 sb2
          unfold stD
          rw [q_isN_t, q_bT]
          refine bI_f rfl ?_
          refine qLc_all1B (xs := [(b, e)]) (D := stP) (fun p => .tuple [.str p.1.s, .str p.1.r]) (by simp) (fun p hp sk yd hy => ?_) ?_
          · unfold qb_law_one_right_4
            rw [show stP p = .tuple [.int p.1.h, p.2, .str p.1.s, .str p.1.r] from rfl, q_slT]
            exact hy
          rw [show [(b, e)].map (fun p : Rr × PyData => PyData.tuple [.str p.1.s, .str p.1.r]) = [.tuple [.str b.s, .str b.r]] from rfl, q_slT, show DL.cutD [PyData.str s, .str r, .int n] none (some 2) = [.str s, .str r] from rfl, sb1, sb2]
          refine eq_same rfl (shp_one t1 t2) (by simp [PyData.eqv, PyData.eqvAll]) ?_
          walk_at "q"
          rw [decide_eq_true nh]
          exact hK
    have found : ∀ s0 : Str, (∀ s r n, stdR rs m h = some (s, r, n) → s = s0) → ss.flatMap (foundL rs m h) = if s0 ∈ ss then foundL rs m h s0 else [] := fun s0 hs0 => crew_one nds _ fun s _ hne => by
      unfold foundL
      cases eo : stdR rs m h with
      | none => rfl
      | some v =>
        obtain ⟨a, r, n⟩ := v
        have := hs0 a r n eo
        unfold pickH
        dsimp only
        rw [if_neg (by rw [this]; exact fun z => hne z.symm)]
        rfl
    have ejn : ∀ {u : Prop → Prop} {T : Prop}, u T → jn u T := fun p => p
    cases eo : stdR rs m h with
    | none =>
      rw [eo] at tail
      have fe : ss.flatMap (foundL rs m h) = [] := by
        have := found "" (fun s r n e => by rw [eo] at e; cases e)
        rw [this]
        split
        · unfold foundL
          rw [eo]
          rfl
        · rfl
      rw [fe]
      unfold stD at tail ⊢
      rw [q_isN_n, q_bT]
      refine (show ∀ {u : (Bool → Prop) → Prop} {K : Bool → Prop}, K true → DL.tOr true u K from fun p => p) ?_
      refine ejn ?_
      refine bI_t rfl ?_
      exact bI_f rfl tail
    | some v =>
      obtain ⟨s, r, n⟩ := v
      obtain ⟨⟨x, hx, xm, xs_, xr⟩, nh⟩ := std_row ok eo
      have t1 : PyData.strOk s = true := by rw [← xs_]; exact txt_of (ok.ok x hx).s
      have t2 : PyData.strOk r = true := by rw [← xr]; exact txt_of (.inl (ok.ok x hx).r)
      have t3 : PyData.strOk m = true := txt_of (.inl hm)
      have fs := found s (fun s' r' n' e => by rw [eo] at e; cases e; rfl)
      rw [eo] at tail
      unfold stD at tail ⊢
      rw [q_isN_t, q_bT]
      refine (show ∀ {u : (Bool → Prop) → Prop} {K : Bool → Prop}, u K → DL.tOr false u K from fun p => p) ?_
      refine ix_t0 ?_
      rw [q_eqS, q_bT]
      refine ejn ?_
      by_cases z : s = ""
      · have : s ∉ ss := fun q => by
          have := hsg s q
          rw [z] at this
          revert this
          decide
        rw [if_neg this] at fs
        rw [fs]
        refine bI_y z ?_
        exact bI_f rfl tail
      · have hin : s ∈ ss := by
          rcases hsh x hx with q | q
          · rw [← xs_]; exact q
          · exact absurd (xs_.symm.trans q) z
        rw [if_pos hin] at fs
        have fl : foundL rs m h s = [.tuple [.str s, .tuple [.str m, .str r, .int n]]] := by
          unfold foundL pickH
          rw [eo]
          dsimp only
          rw [if_pos rfl]
          rfl
        rw [fs, fl]
        refine bI_n z ?_
        refine ix_t0 ?_
        refine ix_t1 ?_
        refine ix_t2 ?_
        refine ne_same rfl (shp_two t1 t2 t3) (by simp [PyData.eqv, PyData.eqvAll]) ?_
        rw [q_bT]
        exact bI_f (b := false) (p := K (.bool false)) rfl tail
theorem perm_put {α : Type} (l : List α) (x : α) (k : Nat) : (l.take k ++ [x] ++ l.drop k).Perm (x :: l) := by
  rw [List.append_assoc, List.singleton_append]
  refine List.perm_middle.trans (List.Perm.cons _ ?_)
  rw [List.take_append_drop]
theorem same_st {o : Option (Str × Str × Int)} (h : ∀ s r n, o = some (s, r, n) → PyData.strOk s = true ∧ PyData.strOk r = true) {d e : PyData} (hd : d = stD o) (he : e = stD o) {P : PyData → Prop} (k : P (.bool false)) : oNe d e P := by
  subst hd
  subst he
  cases o with
  | none => exact ne_same rfl (by decide +kernel) (by decide +kernel) k
  | some v =>
    obtain ⟨s, r, n⟩ := v
    obtain ⟨h1, h2⟩ := h s r n rfl
    refine ne_same rfl ?_ (by simp [stD, PyData.eqv, PyData.eqvAll]) k
    unfold stD SeqAt.shaped
    rw [Bool.and_eq_true, decide_eq_true_eq]
    exact ⟨by simp [PyData.canLay0, PyData.canLayAll0, h1, h2], by simp [PyData.depth, PyData.depthAll]⟩
theorem eq_mh {a b : Str} {x y : Int} (ha : goodN a = true) (hb : goodN b = true) {P : PyData → Prop} (h : P (.bool (decide (a = b) && decide (x = y)))) : oEq (.tuple [.str a, .int x]) (.tuple [.str b, .int y]) P := by
  have sh : ∀ {a : Str} {x : Int}, goodN a = true → SeqAt.shaped (.tuple [.str a, .int x]) = true := fun {a x} g => by
    unfold SeqAt.shaped
    rw [Bool.and_eq_true, decide_eq_true_eq]
    exact ⟨by simp [PyData.canLay0, PyData.canLayAll0, txt_of (.inl g)], by simp [PyData.depth, PyData.depthAll]⟩
  refine ⟨⟨sh ha, sh hb⟩, ?_⟩
  rw [eqD_eq]
  have e : PyData.eqv (.tuple [.str a, .int x]) (.tuple [.str b, .int y]) = (decide (a = b) && decide (x = y)) := by
    simp [PyData.eqv, PyData.eqvAll, Bool.beq_eq_decide_eq, BEq.beq]
  rw [e]
  exact h
theorem cut_takeK {k : Nat} {rs : List Rl} : DL.cutD (rs.map rlD) none (some (k : Int)) = (rs.take k).map rlD := by
  unfold DL.cutD
  rw [HT.sIx_none, HT.sIx_nat, List.drop_zero, Nat.sub_zero, List.map_take]
  rcases Nat.le_total k (rs.map rlD).length with h | h
  · rw [Nat.min_eq_left h]
  · rw [Nat.min_eq_right h, List.take_of_length_le (Nat.le_refl _), List.take_of_length_le h]
theorem cut_fromK {k : Nat} {rs : List Rl} : DL.cutD (rs.map rlD) (some (k : Int)) none = (rs.drop k).map rlD := by
  unfold DL.cutD
  rw [HT.sIx_none, HT.sIx_nat, List.map_drop]
  rcases Nat.le_total k (rs.map rlD).length with h | h
  · rw [Nat.min_eq_left h, List.take_of_length_le (by rw [List.length_drop]; omega)]
  · rw [Nat.min_eq_right h, List.drop_of_length_le h, List.drop_of_length_le (Nat.le_refl _)]
    simp
theorem shp_stays {bs : List Rr} (h : ∀ b ∈ bs, TxR b) : SeqAt.shaped (.tuple ((prs bs).map stP)) = true := by
  have key : ∀ l : List (Rr × PyData), (∀ p ∈ l, TxR p.1 ∧ (p.2 = .none ∨ ∃ i : Int, p.2 = .int i)) → PyData.canLayAll0 (l.map stP) = true ∧ PyData.depthAll (l.map stP) ≤ 1 := by
    intro l
    induction l with
    | nil => intro _; exact ⟨rfl, by simp [PyData.depthAll]⟩
    | cons a r ih =>
      intro h
      obtain ⟨i1, i2⟩ := ih fun t ht => h t (List.mem_cons_of_mem _ ht)
      obtain ⟨⟨t1, t2⟩, he⟩ := h a List.mem_cons_self
      obtain ⟨b, e⟩ := a
      dsimp only at he t1 t2
      rw [List.map_cons]
      unfold stP at i1 i2 ⊢
      rcases he with rfl | ⟨i, rfl⟩
      · exact ⟨by simp [PyData.canLayAll0, PyData.canLay0, t1, t2, i1], by simp [PyData.depthAll, PyData.depth]; omega⟩
      · exact ⟨by simp [PyData.canLayAll0, PyData.canLay0, t1, t2, i1], by simp [PyData.depthAll, PyData.depth]; omega⟩
  have mem : ∀ l : List Rr, ∀ p ∈ prs l, p.1 ∈ l := fun l => by
    induction l with
    | nil => intro p hp; cases hp
    | cons x r ih =>
      intro p hp
      cases r with
      | nil => rw [List.mem_singleton.mp hp]; simp
      | cons y r =>
        rw [prs] at hp
        rcases List.mem_cons.mp hp with rfl | hp
        · simp
        · exact List.mem_cons_of_mem _ (ih p hp)
  obtain ⟨a, b⟩ := key (prs bs) fun p hp => ⟨h _ (mem bs p hp), prs_ends bs p hp⟩
  unfold SeqAt.shaped
  rw [Bool.and_eq_true, decide_eq_true_eq]
  refine ⟨by rw [PyData.canLay0]; exact a, ?_⟩
  rw [PyData.depth]
  omega
theorem eqv_stays (bs : List Rr) : PyData.eqv (.tuple ((prs bs).map stP)) (.tuple ((prs bs).map stP)) = true := by
  rw [PyData.eqv]
  have key : ∀ l : List (Rr × PyData), (∀ p ∈ l, p.2 = .none ∨ ∃ i : Int, p.2 = .int i) → PyData.eqvAll (l.map stP) (l.map stP) = true := fun l => by
    induction l with
    | nil => intro _; rfl
    | cons a r ih =>
      intro h
      have i := ih fun t ht => h t (List.mem_cons_of_mem _ ht)
      obtain ⟨b, e⟩ := a
      have he := h (b, e) List.mem_cons_self
      dsimp only at he
      rw [List.map_cons, PyData.eqvAll, i]
      rcases he with rfl | ⟨j, rfl⟩ <;> simp [stP, PyData.eqv, PyData.eqvAll]
  exact key _ fun p hp => prs_ends bs p hp
theorem row_more_t {rs : List Rl} (ok : RollOk rs) (few : rs.length ≤ 50) {men : List Str} (hmg : ∀ t ∈ men, goodN t = true) (m0 : 1 ≤ men.length) (m6 : men.length ≤ 6) {ss : List Str} (s1 : 1 ≤ ss.length) (s7 : ss.length ≤ 7) (hsg : ∀ t ∈ ss, goodN t = true) {ranks : PyData} (hra : NmL ranks) {hs : List Int} (hh : ∀ h ∈ hs, 0 ≤ h ∧ h ≤ 100000) (h1 : 1 ≤ hs.length) (h2 : hs.length ≤ 400) {xs : List PyData} (hp : MPot xs) (K : PyData → List PyData → Prop) (hK : ∀ xs', K (.bool true) xs') :
    q_law_row_more xs (rollD rs) (.list (men.map .str)) (.list (hs.map .int)) (.list (ss.map .str)) ranks K := by
  obtain ⟨rr, rfl, r0, r1, hr⟩ := hra
  unfold q_law_row_more
  walk_at "j"
  refine take_q hp (by omega) (by omega) _ fun a xs a0 a1 hp => ?_
  obtain ⟨a, rfl⟩ : ∃ k : Nat, a = (k : Int) := ⟨a.toNat, by omega⟩
  obtain ⟨man, hman⟩ : ∃ z, men[a]? = some z := ⟨_, List.getElem?_eq_getElem (by omega)⟩
  have gm := hmg man (List.mem_of_getElem? hman)
  walk_at "j"
  rw [pick_lit a (by rw [List.getElem?_map, hman]; rfl)]
  refine take_q hp (by omega) (by omega) _ fun b xs b0 b1 hp => ?_
  obtain ⟨b, rfl⟩ : ∃ k : Nat, b = (k : Int) := ⟨b.toNat, by omega⟩
  obtain ⟨hour, hhour⟩ : ∃ z, hs[b]? = some z := ⟨_, List.getElem?_eq_getElem (by omega)⟩
  have gh := hh hour (List.mem_of_getElem? hhour)
  walk_at "j"
  rw [pick_lit b (by rw [List.getElem?_map, hhour]; rfl)]
  obtain ⟨os, so⟩ := sort_ex ok man
  refine where_t ok gm gh.1 gh.2 so _ ?_
  refine take_q hp (by decide) (by decide) _ fun c xs c0 c1 hp => ?_
  walk_at "j"
  have fw := ok.few
  refine qLc_selB (xs := rs) (D := rlD) rlD (fun x => decide (x.m = man) && decide (x.h = hour)) (by omega) (fun x hx sk yd hy hsk => ?_) ?_
  · unfold qb_law_row_more_1
    have ed : rlD x = .tuple [.str x.m, .int x.h, .str x.s, .str x.r] := rfl
    rw [ed] at hy ⊢
    rw [q_slT, show DL.cutD [PyData.str x.m, .int x.h, .str x.s, .str x.r] none (some 2) = [.str x.m, .int x.h] from rfl]
    refine eq_mh (ok.ok x hx).m gm ?_
    rw [q_bT]
    cases q : (decide (x.m = man) && decide (x.h = hour)) with
    | true => exact hy q
    | false => exact hsk q
  obtain ⟨o, eo⟩ : ∃ o, stand (os.filter fun x => decide (x.h ≤ hour)) = o := ⟨_, rfl⟩
  rw [eo]
  by_cases e : ∃ x ∈ rs, x.m = man ∧ x.h = hour
  · have ne : (rs.filter fun x => decide (x.m = man) && decide (x.h = hour)) ≠ [] := fun z => by
      obtain ⟨x, hx, a1, a2⟩ := e
      have := List.filter_eq_nil_iff.mp z x hx
      simp [a1, a2] at this
    have ne2 : ((rs.filter fun x => decide (x.m = man) && decide (x.h = hour)).map rlD).isEmpty = false := by
      cases z : rs.filter fun x => decide (x.m = man) && decide (x.h = hour) with
      | nil => exact absurd z ne
      | cons _ _ => rfl
    rw [ne2]
    refine (show ∀ {u : (Bool → Prop) → Prop} {K : Bool → Prop}, K true → DL.tOr (!false) u K from fun p => p) ?_
    exact bI_t rfl (hK xs)
  have nil : (rs.filter fun x => decide (x.m = man) && decide (x.h = hour)) = [] := by
    rw [List.filter_eq_nil_iff]
    intro x hx z
    refine e ⟨x, hx, ?_⟩
    simpa using z
  rw [nil]
  refine (show ∀ {u : (Bool → Prop) → Prop} {K : Bool → Prop}, u K → DL.tOr (!true) u K from fun p => p) ?_
  have txt : ∀ s r n, o = some (s, r, n) → (goodN s = true ∨ s = "") ∧ goodN r = true := fun s r n h => by
    have : stdR rs man hour = some (s, r, n) := by
      unfold stdR
      rw [sortR_eq so (.refl _), eo]
      exact h
    obtain ⟨⟨x, hx, _, a2, a3⟩, _⟩ := std_row ok this
    have := ok.ok x hx
    rw [← a2, ← a3]
    exact ⟨this.s, this.r⟩
  by_cases again : c = 0 ∧ o = none
  · obtain ⟨rfl, rfl⟩ := again
    unfold stD
    rw [q_isN_n, q_bT]
    exact bI_t (b := true && decide ((0 : Int) = 0)) (by decide) (hK xs)
  have cont : ∀ {T U : Prop}, U → (oIsN (stD o) fun t22 => bT t22 fun b23 => bIf (b23 && decide (c = 0)) T U) := fun {T U} hu => by
    cases o with
    | none =>
      unfold stD
      rw [q_isN_n, q_bT]
      exact bI_f (b := true && decide (c = 0)) (by rw [Bool.true_and]; exact decide_eq_false fun z => again ⟨z, rfl⟩) hu
    | some v =>
      obtain ⟨s, r, n⟩ := v
      unfold stD
      rw [q_isN_t, q_bT]
      exact bI_f (b := false && decide (c = 0)) rfl hu
  refine cont ?_
  refine take_q hp (by omega) (by omega) _ fun d xs d0 d1 hp => ?_
  refine pick_mem d0 (by simpa using d1) fun y hy => ?_
  obtain ⟨ship, mship, rfl⟩ := List.mem_map.mp hy
  refine take_q hp (by omega) (by omega) _ fun g xs g0 g1 hp => ?_
  refine pick_mem g0 (by simpa using g1) fun y hy => ?_
  obtain ⟨rank, mrank, rfl⟩ := List.mem_map.mp hy
  refine jn_by (fun pl => ∃ s r, pl = .tuple [.str s, .str r] ∧ (goodN s = true ∨ s = "") ∧ goodN r = true ∧ (c = 0 → ∃ n, o = some (s, r, n))) (fun J hJ => ?_) fun pl hpl => ?_
  · by_cases z : c = 0
    · refine bI_y z ?_
      obtain ⟨v, ev⟩ : ∃ v, o = some v := by
        cases o with
        | none => exact absurd ⟨z, rfl⟩ again
        | some v => exact ⟨v, rfl⟩
      obtain ⟨s, r, n⟩ := v
      obtain ⟨t1, t2⟩ := txt s r n ev
      rw [ev]
      show J (.tuple [.str s, .str r])
      exact hJ _ ⟨s, r, rfl, t1, t2, fun _ => ⟨n, ev⟩⟩
    · exact bI_n z (hJ _ ⟨ship, rank, rfl, .inl (hsg ship mship), hr rank mrank, fun q => absurd q z⟩)
  obtain ⟨s, r, rfl, gs, gr, ag⟩ := hpl
  refine take_q hp (by omega) (by omega) _ fun k xs k0 k1 hp => ?_
  obtain ⟨k, rfl⟩ : ∃ j : Nat, k = (j : Int) := ⟨k.toNat, by omega⟩
  rw [q_so, cut_takeK]
  have ex : ∀ P : PyData → Prop, P (rlD ⟨man, hour, s, r⟩) → oAdd (.tuple [.str man, .int hour]) (.tuple [.str s, .str r]) P := fun P hP => by
    walk_at "q"
    first
      | exact hP
      | exact ⟨by decide, hP⟩
  refine ex _ ?_
  rw [List.length_map]
  have tl : (rs.take k).length + (rs.drop k).length ≤ 60 := by rw [List.length_take, List.length_drop]; omega
  refine ⟨by omega, ?_⟩
  rw [q_so, cut_fromK]
  refine ⟨by rw [List.length_map]; omega, ?_⟩
  obtain ⟨qs, eq⟩ : ∃ qs, rs.take k ++ [⟨man, hour, s, r⟩] ++ rs.drop k = qs := ⟨_, rfl⟩
  have ed : (rs.take k).map rlD ++ [rlD ⟨man, hour, s, r⟩] ++ (rs.drop k).map rlD = qs.map rlD := by rw [← eq, List.map_append, List.map_append]; rfl
  rw [ed]
  have pq : qs.Perm (⟨man, hour, s, r⟩ :: rs) := by rw [← eq]; exact perm_put rs _ k
  have okx : RollOk (⟨man, hour, s, r⟩ :: rs) := ⟨by rw [List.length_cons]; omega, fun y hy => by
    rcases List.mem_cons.mp hy with rfl | hy
    · exact ⟨gm, gh.1, gh.2, gs, gr⟩
    · exact ok.ok y hy, by
    rw [List.map_cons, List.nodup_cons]
    refine ⟨fun z => ?_, ok.one⟩
    obtain ⟨y, hy, ey⟩ := List.mem_map.mp z
    have ey : ([.inr y.m, .inl y.h] : List Key) = [.inr man, .inl hour] := ey
    injection ey with e1 ey
    injection ey with e2 _
    injection e1 with e1
    injection e2 with e2
    exact e ⟨y, hy, e1, e2⟩⟩
  have okq : RollOk qs := okx.perm pq
  have new : ∀ y ∈ os, y.h ≠ hour := fun y hy z => by
    have := so.2.mem_iff.mp hy
    unfold rowsM at this
    obtain ⟨w, hw, rfl⟩ := List.mem_map.mp this
    obtain ⟨w1, w2⟩ := List.mem_filter.mp hw
    exact e ⟨w, w1, by simpa using w2, z⟩
  have so2 : SortsTo qs man (os.filter (fun y => decide (y.h ≤ hour)) ++ ⟨hour, s, r⟩ :: os.filter (fun y => !decide (y.h ≤ hour))) := put_sorts (x := ⟨man, hour, s, r⟩) pq so new
  have sp := up_split (h := hour) so.1
  have l1h : ∀ y ∈ os.filter (fun y => decide (y.h ≤ hour)), y.h ≤ hour := fun y hy => by simpa using (List.mem_filter.mp hy).2
  have l2h : ∀ y ∈ os.filter (fun y => !decide (y.h ≤ hour)), hour < y.h := fun y hy => by
    have := (List.mem_filter.mp hy).2
    simp at this
    omega
  generalize el1 : os.filter (fun y => decide (y.h ≤ hour)) = l1 at *
  generalize el2 : os.filter (fun y => !decide (y.h ≤ hour)) = l2 at *
  have okt : ∀ (m : Str) (g : Int) (s r : Str) (n : Int), stdR rs m g = some (s, r, n) → PyData.strOk s = true ∧ PyData.strOk r = true := fun m g s r n h => by
    obtain ⟨⟨x, hx, _, a2, a3⟩, _⟩ := std_row ok h
    have := ok.ok x hx
    rw [← a2, ← a3]
    exact ⟨txt_of this.s, txt_of (.inl this.r)⟩
  have fin : qFor (qb_law_row_more_2 K) (xs, rollD rs, .list (hs.map .int), .str man, .int hour, .bool (decide (c = 0)), .tuple [.str s, .str r], .tuple (qs.map rlD)) (men.map .str) () fun s77 => q_where_at (.tuple (qs.map rlD)) (.str man) (.int hour) fun w78 => oSl w78 none (some 2) fun l79 => oEq l79 (.tuple [.str s, .str r]) fun t80 => K t80 xs := by
    refine qFor_ind (fun _ _ => True) trivial (fun j d st nx hd _ hnx => ?_) fun st _ => ?_
    · rw [List.getElem?_map] at hd
      obtain ⟨one, hone, rfl⟩ := Option.map_eq_some_iff.mp hd
      have g1 := hmg one (List.mem_of_getElem? hone)
      unfold qb_law_row_more_2
      walk_at "j"
      refine qFor_ind (fun _ _ => True) trivial (fun j2 d st nx2 hd _ hnx2 => ?_) fun st _ => hnx _ trivial
      rw [List.getElem?_map] at hd
      obtain ⟨here, hhere, rfl⟩ := Option.map_eq_some_iff.mp hd
      obtain ⟨e0, e1⟩ := hh here (List.mem_of_getElem? hhere)
      -- the same is told, where the row tells nothing new
      have same : (one ≠ man ∨ here < hour ∨ c = 0) → ∀ K2 : PyData → Prop, K2 (.bool false) → q_where_at (.tuple (qs.map rlD)) (.str one) (.int here) fun w70 => q_where_at (rollD rs) (.str one) (.int here) fun w71 => oNe w70 w71 fun t72 => K2 t72 := fun hc K2 hK2 => by
        obtain ⟨us, su⟩ := sort_ex ok one
        have eu : stdR rs one here = stand (us.filter fun x => decide (x.h ≤ here)) := by unfold stdR; rw [sortR_eq su (.refl _)]
        have ends : ∀ vs, SortsTo qs one vs → stand (vs.filter fun x => decide (x.h ≤ here)) = stand (us.filter fun x => decide (x.h ≤ here)) → q_where_at (.tuple (qs.map rlD)) (.str one) (.int here) fun w70 => q_where_at (rollD rs) (.str one) (.int here) fun w71 => oNe w70 w71 fun t72 => K2 t72 := fun vs sv ev => by
          refine where_t okq g1 e0 e1 sv _ ?_
          refine where_t ok g1 e0 e1 su _ ?_
          rw [ev]
          exact same_st (o := stand (us.filter fun x => decide (x.h ≤ here))) (fun s r n h => okt one here s r n (by rw [eu]; exact h)) rfl rfl hK2
        by_cases hne : one = man
        · subst hne
          have euo : us = os := so.uniq su (.refl _)
          subst euo
          refine ends _ so2 ?_
          conv => rhs; rw [sp]
          by_cases hlt : here < hour
          · rw [up_two l1h l2h here hlt _ rfl]
          · have c0 : c = 0 := by
              rcases hc with q | q | q
              · exact absurd rfl q
              · exact absurd q hlt
              · exact q
            obtain ⟨n, en⟩ := ag c0
            rw [en] at eo
            have f1 : l1.filter (fun x => decide (x.h ≤ here)) = l1 := List.filter_eq_self.mpr fun y hy => by
              have := l1h y hy
              simp
              omega
            rw [List.filter_append, List.filter_append, f1, List.filter_cons_of_pos (by simp; omega)]
            exact stand_put eo
        · exact ends us (put_other (x := ⟨man, hour, s, r⟩) pq hne su) rfl
      unfold qb_law_row_more_3
      rw [q_neS, q_bT]
      by_cases hne : one = man
      · rw [decide_eq_true hne]
        refine (show ∀ {u : (Bool → Prop) → Prop} {K : Bool → Prop}, u K → DL.tOr (!true) u K from fun p => p) ?_
        rw [q_lt, q_bT]
        by_cases hlt : here < hour
        · refine tO_y hlt ?_
          refine bI_t rfl ?_
          refine same (.inr (.inl hlt)) _ ?_
          rw [q_bT]
          exact bI_f rfl (hnx2 _ trivial)
        · refine tO_n hlt ?_
          rw [q_bT]
          by_cases z : c = 0
          · refine bI_y z ?_
            refine same (.inr (.inr z)) _ ?_
            rw [q_bT]
            exact bI_f rfl (hnx2 _ trivial)
          · exact bI_n z (hnx2 _ trivial)
      · rw [decide_eq_false hne]
        refine (show ∀ {u : (Bool → Prop) → Prop} {K : Bool → Prop}, K true → DL.tOr (!false) u K from fun p => p) ?_
        refine bI_t rfl ?_
        refine same (.inl hne) _ ?_
        rw [q_bT]
        exact bI_f rfl (hnx2 _ trivial)
    · refine where_t okq gm gh.1 gh.2 so2 _ ?_
      have ef : (l1 ++ (⟨hour, s, r⟩ : Rr) :: l2).filter (fun y => decide (y.h ≤ hour)) = l1 ++ [⟨hour, s, r⟩] := by
        rw [List.filter_append, List.filter_eq_self.mpr (fun y hy => by simpa using l1h y hy), List.filter_cons_of_pos (by simp), List.filter_eq_nil_iff.mpr (fun y hy z => by have := l2h y hy; simp at z; omega)]
      rw [ef, stand_snoc]
      unfold stNext stD
      dsimp only
      rw [q_slT]
      have t1 : PyData.strOk s = true := txt_of gs
      have t2 : PyData.strOk r = true := txt_of (.inl gr)
      refine eq_same rfl ?_ (by simp [DL.cutD, PyData.eqv, PyData.eqvAll, HT.sIx]) ?_
      · show SeqAt.shaped (.tuple [.str s, .str r]) = true
        unfold SeqAt.shaped
        rw [Bool.and_eq_true, decide_eq_true_eq]
        exact ⟨by simp [PyData.canLay0, PyData.canLayAll0, t1, t2], by simp [PyData.depth, PyData.depthAll]⟩
      · exact hK xs
  by_cases z : c = 0
  · obtain ⟨n, en⟩ := ag z
    rw [en] at eo
    rw [decide_eq_true z] at fin ⊢
    refine (show ∀ {u : (Bool → Prop) → Prop} {K : Bool → Prop}, u K → DL.tAnd true u K from fun p => p) ?_
    refine stays_t okq gm so2 _ ?_
    refine stays_t ok gm so _ ?_
    have eb := begs_put (l2 := l2) (x := ⟨hour, s, r⟩) eo
    rw [eb, ← sp]
    have tx := so.txt ok.ok
    refine ne_same rfl (shp_stays fun b hb => tx b (begs_mem os b hb)) (eqv_stays _) ?_
    rw [q_bT]
    exact bI_f rfl fin
  · rw [decide_eq_false z] at fin ⊢
    exact bI_f (b := false) rfl fin
def nmB (k : Nat) : Str := Str.ofString "qqqqqq" ++ (⟨#[97 + k]⟩ : Str)
theorem nmB_good : ∀ k, k < 6 → goodN (nmB k) = true := by decide +kernel
theorem nmB_inj {j k : Nat} (e : nmB j = nmB k) : j = k := by
  have : (nmB j).cps.toList = (nmB k).cps.toList := by rw [e]
  have l : ∀ k, (nmB k).cps.toList = [113, 113, 113, 113, 113, 113, 97 + k] := fun k => by
    unfold nmB
    show ((Str.ofString "qqqqqq").cps ++ #[97 + k]).toList = _
    rw [Array.toList_append]
    rfl
  rw [l, l] at this
  simp at this
  exact this
theorem idx_spec {l : List Str} {m : Str} (hm : m ∈ l) : l[idxM l m]? = some m := by
  unfold idxM
  cases e : l.findIdx? fun z => decide (z = m) with
  | none =>
    have := List.findIdx?_eq_none_iff.mp e m hm
    simp at this
  | some j =>
    rw [List.findIdx?_eq_some_iff_getElem] at e
    obtain ⟨h1, h2, _⟩ := e
    rw [Option.getD_some, List.getElem?_eq_getElem h1]
    congr 1
    simpa using h2
def renF (men : List Str) (m : Str) : Str := nmB (men.length - 1 - idxM men m)
theorem ren_ok {rs : List Rl} {men : List Str} (m6 : men.length ≤ 6) (hm : ∀ x ∈ rs, x.m ∈ men) : Ren rs (renF men) := by
  have lt : ∀ m ∈ men, idxM men m < men.length := fun m hm => (List.getElem?_eq_some_iff.mp (idx_spec hm)).1
  refine ⟨fun x hx => nmB_good _ (by have := lt _ (hm x hx); omega), fun x hx y hy e => ?_⟩
  have := nmB_inj e
  have l1 := lt _ (hm x hx)
  have l2 := lt _ (hm y hy)
  have e2 : idxM men x.m = idxM men y.m := by omega
  have a := idx_spec (hm x hx)
  have b := idx_spec (hm y hy)
  rw [e2] at a
  rw [a] at b
  injection b
def nmsB (men : List Str) : List Str := (List.range men.length).map fun k => nmB (men.length - 1 - k)
theorem pick_nm {men : List Str} {m : Str} (hm : m ∈ men) {P : PyData → Prop} (h : P (.str (renF men m))) : pick ((nmsB men).map .str) (idxM men m : Nat) P := by
  have lt := (List.getElem?_eq_some_iff.mp (idx_spec hm)).1
  rw [pick_lit (idxM men m) (by unfold nmsB; rw [List.getElem?_map, List.getElem?_map, List.getElem?_range lt]; rfl)]
  exact h
theorem called_t {rs : List Rl} (few : rs.length ≤ 60) {men : List Str} (hmg : ∀ t ∈ men, goodN t = true) (hm : ∀ x ∈ rs, x.m ∈ men) (K : PyData → Prop) (hK : K (rollD (rs.map (renR (renF men))))) : q_law_called (rollD rs) (.list (men.map .str)) (.list ((nmsB men).map .str)) K := by
  unfold q_law_called
  rw [show rollD rs = .tuple (rs.map rlD) from rfl, q_itemsT]
  refine qLc_all1B (xs := rs) (D := rlD) (fun x => rlD (renR (renF men) x)) (by omega) (fun x hx sk yd hy => ?_) ?_
  · unfold qb_law_called_1
    have ed : rlD x = .tuple [.str x.m, .int x.h, .str x.s, .str x.r] := rfl
    rw [ed]
    walk_at "q"
    refine idx_strs hmg (hm x hx) ?_
    walk_at "q"
    refine pick_nm (hm x hx) ?_
    rw [show DL.cutD [PyData.str x.m, .int x.h, .str x.s, .str x.r] (some 1) none = [.int x.h, .str x.s, .str x.r] from rfl]
    walk_at "q"
    first
      | exact hy
      | exact ⟨by decide, hy⟩
  · walk_at "q"
    unfold rollD at hK
    rw [List.map_map] at hK
    exact hK
theorem shp_hds {hs : List Hd} (h : ∀ x ∈ hs, goodN x.m = true ∧ goodN x.r = true) : SeqAt.shaped (.list (hs.map hdD)) = true := by
  have key : ∀ l : List Hd, (∀ x ∈ l, goodN x.m = true ∧ goodN x.r = true) → PyData.canLayAll0 (l.map hdD) = true ∧ PyData.depthAll (l.map hdD) ≤ 1 := by
    intro l
    induction l with
    | nil => intro _; exact ⟨rfl, by simp [PyData.depthAll]⟩
    | cons a r ih =>
      intro h
      obtain ⟨i1, i2⟩ := ih fun t ht => h t (List.mem_cons_of_mem _ ht)
      obtain ⟨t1, t2⟩ := h a List.mem_cons_self
      have t1 := txt_of (.inl t1)
      have t2 := txt_of (.inl t2)
      rw [List.map_cons]
      unfold hdD at i1 i2 ⊢
      exact ⟨by simp [PyData.canLayAll0, PyData.canLay0, t1, t2, i1], by simp [PyData.depthAll, PyData.depth]; omega⟩
  obtain ⟨a, b⟩ := key hs h
  unfold SeqAt.shaped
  rw [Bool.and_eq_true, decide_eq_true_eq]
  refine ⟨by rw [PyData.canLay0]; exact a, ?_⟩
  rw [PyData.depth]
  omega
theorem eqv_hds (hs : List Hd) : PyData.eqv (.list (hs.map hdD)) (.list (hs.map hdD)) = true := by
  rw [PyData.eqv]
  induction hs with
  | nil => rfl
  | cons a r ih =>
    rw [List.map_cons, PyData.eqvAll, ih]
    simp [hdD, PyData.eqv, PyData.eqvAll]
theorem cut_take1 {xs : List PyData} {k : Nat} : DL.cutD xs none (some (k : Int)) = xs.take k := by
  unfold DL.cutD
  rw [HT.sIx_none, HT.sIx_nat, List.drop_zero, Nat.sub_zero]
  rcases Nat.le_total k xs.length with h | h
  · rw [Nat.min_eq_left h]
  · rw [Nat.min_eq_right h, List.take_of_length_le (Nat.le_refl _), List.take_of_length_le h]
theorem cut_from1 {xs : List PyData} {k : Nat} : DL.cutD xs (some (k : Int)) none = xs.drop k := by
  unfold DL.cutD
  rw [HT.sIx_none, HT.sIx_nat]
  rcases Nat.le_total k xs.length with h | h
  · rw [Nat.min_eq_left h, List.take_of_length_le (by rw [List.length_drop]; omega)]
  · rw [Nat.min_eq_right h, List.drop_of_length_le h, List.drop_of_length_le (Nat.le_refl _)]
    simp
theorem crewL_memH {rs : List Rl} {s : Str} {h : Int} {x : Hd} : x ∈ crewL rs s h ↔ x ∈ crewH rs s h := (oS_ord (crewH_nd rs s h)).1.mem_iff
theorem range_natC {n : Nat} : rangeD 0 n = (List.range n).map fun k : Nat => PyData.int (k : Int) := by
  unfold rangeD
  refine List.map_congr_left fun k _ => ?_
  rw [Int.zero_add]
theorem q6_pick {k : Nat} {P : PyData → Prop} (hk : k < 6) (h : P (.str ⟨#[97 + k]⟩)) : oIx (.str "abcdef") (.int (k : Int)) P := by
  have e : ∀ k : Nat, k < 6 → atI (Str.ofString "abcdef").cps.toList (k : Int) = some (97 + k) := by decide +kernel
  show pickS (Str.ofString "abcdef") (k : Int) P
  unfold pickS
  rw [e k hk]
  exact ⟨by decide +kernel, h⟩
theorem the_law (ns : List Int) (hn : ns.length ≤ 63) (K : PyData → Prop) (hK : K (.bool true)) : q_law (.list (ns.map .int)) K := by
  unfold q_law
  walk_at "q"
  refine ⟨by split <;> split <;> omega, ?_⟩
  refine qFor_range (fun _ _ => True) trivial (fun k s nx hk _ hnx => ?_) fun _ _ => hK
  have hk : k ≤ 100 := by
    have : ∀ i : Int, i ≤ 63 → (if i > 1 then i else 1) ≤ 100 := fun i h => by split <;> omega
    have h2 := this (if (ns.length : Int) < 63 then (ns.length : Int) else 63) (by split <;> omega)
    omega
  unfold qb_law_1
  refine pot_q ns _ (by omega) (by omega) _ fun xs hp => ?_
  walk_at "j"
  obtain ⟨c, ec, c0, c1⟩ : ∃ c : Int, (if decide ((0 : Int) + (k : Nat) = 0) = true then (1 : Int) else 0) = c ∧ 0 ≤ c ∧ c < 2 := ⟨_, rfl, by split <;> omega, by split <;> omega⟩
  rw [ec]
  refine pick_mem c0 (by simpa using c1) fun d hd => ?_
  obtain ⟨most, rfl, m0, m1⟩ : ∃ m : Int, d = .int m ∧ 0 ≤ m ∧ m ≤ 30 := by
    simp only [List.mem_cons, List.not_mem_nil, or_false] at hd
    rcases hd with rfl | rfl <;> exact ⟨_, rfl, by decide, by decide⟩
  refine law_roll_s hp m0 (by omega) _ fun rs men ss ranks xs hrs hps ndm nds s1 s7 hsg hrl ml m6 hm hra hp => ?_
  have few := hrs.few
  walk_at "j"
  refine hours_t hrs.ok few hp _ fun hs xs h1 h2 hh hp => ?_
  walk_at "j"
  refine take_q hp (by omega) (by omega) _ fun t xs t0 t1 hp => ?_
  obtain ⟨t, rfl⟩ : ∃ j : Nat, t = (j : Int) := ⟨t.toNat, by omega⟩
  rw [q_so]
  refine pick_mem c0 (by simpa using c1) fun d hd => ?_
  obtain ⟨q, rfl, q1⟩ : ∃ m : Nat, d = .int (m : Int) ∧ 1 ≤ m := by
    simp only [List.mem_cons, List.not_mem_nil, or_false] at hd
    rcases hd with rfl | rfl
    · exact ⟨6, rfl, by decide⟩
    · exact ⟨20, rfl, by decide⟩
  rw [q_so]
  refine pick_mem c0 (by simpa using c1) fun d hd => ?_
  obtain ⟨w, rfl⟩ : ∃ m : Nat, d = .int (m : Int) := by
    simp only [List.mem_cons, List.not_mem_nil, or_false] at hd
    rcases hd with rfl | rfl
    · exact ⟨2, rfl⟩
    · exact ⟨6, rfl⟩
  rw [q_so]
  rw [cut_from1, cut_take1, cut_take1]
  obtain ⟨us, eus⟩ : ∃ us : List Int, (hs.drop t).take q = us := ⟨_, rfl⟩
  rw [← List.map_drop, ← List.map_take, eus]
  have hu : ∀ h ∈ us, 0 ≤ h ∧ h ≤ 100000 := fun h hm => by
    rw [← eus] at hm
    exact hh h (List.mem_of_mem_drop (List.mem_of_mem_take hm))
  have u1 : 1 ≤ us.length := by
    rw [← eus, List.length_take, List.length_drop]
    omega
  have u2 : us.length ≤ 400 := by
    rw [← eus, List.length_take, List.length_drop]
    omega
  rw [← List.map_take]
  refine qFor_ind (fun _ _ => True) trivial (fun j d st nx2 hd _ hnx2 => ?_) fun st _ => ?_
  · rw [List.getElem?_map] at hd
    obtain ⟨m, hmm, rfl⟩ := Option.map_eq_some_iff.mp hd
    have gm := hm m (List.mem_of_mem_take (List.mem_of_getElem? hmm))
    unfold qb_law_2
    walk_at "j"
    refine qFor_ind (fun _ _ => True) trivial (fun j2 d st nx3 hd _ hnx3 => ?_) fun st _ => hnx2 _ trivial
    rw [List.getElem?_map] at hd
    obtain ⟨h, hhm, rfl⟩ := Option.map_eq_some_iff.mp hd
    obtain ⟨z0, z1⟩ := hu h (List.mem_of_getElem? hhm)
    unfold qb_law_3
    refine one_right_t hrs nds s7 hsg (fun x hx => (hps x hx).2) gm z0 z1 _ ?_
    rw [q_bT]
    exact bN_t (hnx3 _ trivial)
  refine row_more_t hrs (by omega) hm ml m6 s1 s7 hsg hra hu u1 u2 hp _ fun xs' => ?_
  rw [q_bT]
  refine bN_t ?_
  walk_at "j"
  refine ⟨⟨by omega, by omega⟩, ?_⟩
  rw [Int.toNat_natCast, range_natC]
  refine qLc_all1B (xs := List.range men.length) (D := fun k : Nat => PyData.int (k : Int)) (fun k => .str (nmB (men.length - 1 - k))) (by simp; omega) (fun j hj sk yd hy => ?_) ?_
  · have hj := List.mem_range.mp hj
    unfold qb_law_4
    walk_at "q"
    rw [show (men.length : Int) - 1 - (j : Int) = ((men.length - 1 - j : Nat) : Int) by omega]
    refine q6_pick (by omega) ?_
    rw [q_addS]
    refine ⟨?_, hy⟩
    have l6 : (Str.ofString "qqqqqq").length = 6 := by decide
    rw [l6]
    show 6 + 1 ≤ 100000
    decide
  have en : ((List.range men.length).map fun k => PyData.str (nmB (men.length - 1 - k))) = (nmsB men).map .str := by unfold nmsB; rw [List.map_map]; rfl
  rw [en]
  have hmem : ∀ x ∈ rs, x.m ∈ men := fun x hx => (hps x hx).1
  have ren := ren_ok m6 hmem
  refine called_t few hm hmem _ ?_
  have okr := ren.ok hrs
  walk_at "j"
  rw [show (some (4 : Int)) = some ((4 : Nat) : Int) from rfl, cut_take1, ← List.map_take]
  refine qFor_ind (fun _ _ => True) trivial (fun j d st nx2 hd _ hnx2 => ?_) fun st _ => hnx _ trivial
  rw [List.getElem?_map] at hd
  obtain ⟨h, hhm, rfl⟩ := Option.map_eq_some_iff.mp hd
  obtain ⟨z0, z1⟩ := hu h (List.mem_of_mem_take (List.mem_of_getElem? hhm))
  unfold qb_law_5
  walk_at "j"
  refine qFor_ind (fun _ _ => True) trivial (fun j2 d st nx3 hd _ hnx3 => ?_) fun st _ => hnx2 _ trivial
  rw [List.getElem?_map] at hd
  obtain ⟨sh, hsh, rfl⟩ := Option.map_eq_some_iff.mp hd
  have gsh := hsg sh (List.mem_of_getElem? hsh)
  unfold qb_law_6
  refine crew_at_t hrs gsh z0 z1 _ ?_
  have cf := crewL_few hrs sh h
  have pc := ren.crew hrs sh h
  have cin : ∀ x ∈ crewL rs sh h, x.m ∈ men := fun x hx => by
    have hx := crewL_memH.mp hx
    unfold crewH at hx
    obtain ⟨m, hm1, e⟩ := List.mem_filterMap.mp hx
    rw [(pickH_some e).1]
    obtain ⟨y, hy, rfl⟩ := List.mem_map.mp ((menS_iff rs m).mp hm1)
    exact hmem y hy
  unfold crewD
  rw [q_itemsT]
  refine qLc_all1B (xs := crewL rs sh h) (D := hdD) (fun x => hdD (renH (renF men) x)) (by omega) (fun x hx sk yd hy => ?_) ?_
  · unfold qb_law_7
    have ed : hdD x = .tuple [.str x.m, .str x.r, .int x.n] := rfl
    rw [ed]
    walk_at "q"
    refine idx_strs hm (cin x hx) ?_
    walk_at "q"
    refine pick_nm (cin x hx) ?_
    rw [show DL.cutD [PyData.str x.m, .str x.r, .int x.n] (some 1) none = [.str x.r, .int x.n] from rfl]
    walk_at "q"
    first
      | exact hy
      | exact ⟨by decide, hy⟩
  have e1 : ((crewL rs sh h).map fun x => hdD (renH (renF men) x)) = ((crewL rs sh h).map (renH (renF men))).map hdD := by rw [List.map_map]; rfl
  rw [e1, q_sortedAL]
  refine ⟨sort_ok_hdD _, ?_⟩
  refine crew_at_t okr gsh z0 z1 _ ?_
  unfold crewD
  rw [q_sortedAT]
  refine ⟨sort_ok_hdD _, ?_⟩
  have ndc : ((crewL (rs.map (renR (renF men))) sh h).map (·.m)).Nodup := ((oS_ord (crewH_nd _ sh h)).1.map _).nodup_iff.mpr (crewH_nd _ sh h)
  rw [sort_same ndc pc.symm]
  obtain ⟨os, eo, po, _⟩ := sort_hdD ndc
  rw [eo]
  refine ne_same rfl (shp_hds fun x hx => ?_) (eqv_hds _) ?_
  · have := crewL_memH.mp (po.mem_iff.mp hx)
    obtain ⟨a, b, _⟩ := crewH_ok okr x this
    exact ⟨a, b⟩
  rw [q_bT]
  exact bI_f rfl (hnx3 _ trivial)
section
variable {P : Program} {w : World} {K : PySem.W.Frag} {mg : Str → Option Value} {base : Heap} [SysB base] {Tb : List (Addr × Str)} [LamB K base mg Tb lam]
def kk_is_whole : RT → (PyData → Prop) := fun R v => R (.dat v) []
def S_is_whole : DSp := fun as Q => match as with
  | [.dat x0] => q_is_whole x0 (kk_is_whole Q)
  | _ => False
theorem len_is_whole (as : List SD) (Q : SD → List SD → Prop) (h : S_is_whole as Q) : as.length = 1 := by
  unfold S_is_whole at h
  split at h
  · rfl
  · exact h.elim
theorem cels_is_whole : CelsIn 0 S_is_whole := by
  intro as Q h i p xs e
  unfold S_is_whole at h
  split at h
  · exact absurd e (no_cel (ds := [_]) i p xs)
  · exact h.elim
def N_is_whole : List Str := ["thing"]
theorem sc_is_whole : FnScope N_is_whole ["thing"] (defScope (top 1)) := ⟨rfl, rfl, rfl, by decide +kernel, rfl, by decide +kernel, by decide +kernel⟩
theorem fg_is_whole (T : Tp K mg)  {fd : FuncData} (Fn : Fun K "is_whole" "is_whole" (top 1) (He.ga K "is_whole") fd) : FnG P w K mg base Tb 1 (He.ga K "is_whole") fd ["thing"] S_is_whole := by
  refine dfn 0 Fn sc_is_whole len_is_whole cels_is_whole fun cdv A outer s H hr hA => ⟨_, (sone (sret (m := 0) (dx (dandV (disi "int" "int" (m_isinstance T) (m_int T) (by decide +kernel) (by decide +kernel) (dv 0)) (done (dnotV (disi "bool" "bool" (m_isinstance T) (m_bool T) (by decide +kernel) (by decide +kernel) (dv 0)))))))), fun as Q h => ?_⟩
  unfold S_is_whole at h
  split at h
  · unfold q_is_whole at h
    rename_i x0
    refine at_env (b := [.dat x0]) rfl ?_
    exact Eq.mp (by kernel_rfl) h
  · exact h.elim
theorem ok_is_whole (T : Tp K mg)  : Dn P w K mg base Tb "is_whole" 1 ["thing"] S_is_whole := by
  obtain ⟨kV, doc, pm, an, cdv, ct, Fn⟩ := T.fun_ "is_whole" (top 1) 0 40
  exact ⟨⟨_, fg_is_whole T  Fn, Fn.binds (ps := ["thing"]) fun _ _ _ _ _ _ us hl => match us, hl with | [_], _ => rfl⟩, T.glo "is_whole" 16, T.keep "is_whole" 40⟩
def kk_is_name : RT → (PyData → Prop) := fun R v => R (.dat v) []
def em_is_name_1 (i : PyData) (s : Unit) : List SD := [.dat i, .un]
def de_is_name_1 : List SD → Option ((PyData) × (Unit))
  | [.dat x0, .un] => some (x0, ())
  | _ => none
theorem hde_is_name_1 : ∀ env i s, de_is_name_1 env = some (i, s) → env = em_is_name_1 i s := by
  intro env i s h
  unfold de_is_name_1 at h
  split at h
  · cases h; rfl
  · cases h
def S_is_name : DSp := fun as Q => match as with
  | [.dat x0] => q_is_name x0 (kk_is_name Q)
  | _ => False
theorem len_is_name (as : List SD) (Q : SD → List SD → Prop) (h : S_is_name as Q) : as.length = 1 := by
  unfold S_is_name at h
  split at h
  · rfl
  · exact h.elim
theorem cels_is_name : CelsIn 0 S_is_name := by
  intro as Q h i p xs e
  unfold S_is_name at h
  split at h
  · exact absurd e (no_cel (ds := [_]) i p xs)
  · exact h.elim
def N_is_name : List Str := ["thing", "sign"]
theorem sc_is_name : FnScope N_is_name ["thing"] (defScope (top 12)) := ⟨rfl, rfl, rfl, by decide +kernel, rfl, by decide +kernel, by decide +kernel⟩
theorem fg_is_name (T : Tp K mg)  {fd : FuncData} (Fn : Fun K "is_name" "is_name" (top 12) (He.ga K "is_name") fd) : FnG P w K mg base Tb 1 (He.ga K "is_name") fd ["thing"] S_is_name := by
  refine dfn 0 Fn sc_is_name len_is_name cels_is_name fun cdv A outer s H hr hA => ⟨_, (scons (sif (tor (tnot (dtest (disi "str" "str" (m_isinstance T) (m_str T) (by decide +kernel) (by decide +kernel) (dv 0)))) (tor1 (tnot (dchainT op_le op_le opr_le opr_le di (dlen (m_len T) (acons (dv 0) anil)) (dnum (c_MOST_SIGNS T)))))).pt (sone (sret (m := 0) (dx db))) snil) (sone (sret (m := 0) (dx (dall (m_all T) rfl (acons (dfrz (dlc (dec := de_is_name_1) (emb := em_is_name_1) (qb := qb_is_name_1) [("sign", 1)] (.one 1) hde_is_name_1 rfl sc_is_name.nd (iseq (dv 0)) (blkOk_by (own := [("sign", 1)]) (N := N_is_name) (sc := defScope (top 12)) (by decide +kernel)) (fun _ _ _ _ _ => pg_name (i := 1) sc_is_name.nd rfl (Or.inl rfl)) (fun _ _ _ _ _ => tyes) (fun _ _ _ _ _ => (din hr (dv 1) (dtxt (cs_LETTERS T)))) (fun d i s sk yd h => Eq.mp (by kernel_rfl) h))) anil)))))), fun as Q h => ?_⟩
  unfold S_is_name at h
  split at h
  · unfold q_is_name at h
    rename_i x0
    refine at_env (b := [.dat x0, .un]) rfl ?_
    exact Eq.mp (by kernel_rfl) h
  · exact h.elim
theorem ok_is_name (T : Tp K mg)  : Dn P w K mg base Tb "is_name" 1 ["thing"] S_is_name := by
  obtain ⟨kV, doc, pm, an, cdv, ct, Fn⟩ := T.fun_ "is_name" (top 12) 1 41
  exact ⟨⟨_, fg_is_name T  Fn, Fn.binds (ps := ["thing"]) fun _ _ _ _ _ _ us hl => match us, hl with | [_], _ => rfl⟩, T.glo "is_name" 17, T.keep "is_name" 41⟩
def kk_is_hour : RT → (PyData → Prop) := fun R v => R (.dat v) []
def S_is_hour : DSp := fun as Q => match as with
  | [.dat x0] => q_is_hour x0 (kk_is_hour Q)
  | _ => False
theorem len_is_hour (as : List SD) (Q : SD → List SD → Prop) (h : S_is_hour as Q) : as.length = 1 := by
  unfold S_is_hour at h
  split at h
  · rfl
  · exact h.elim
theorem cels_is_hour : CelsIn 0 S_is_hour := by
  intro as Q h i p xs e
  unfold S_is_hour at h
  split at h
  · exact absurd e (no_cel (ds := [_]) i p xs)
  · exact h.elim
def N_is_hour : List Str := ["thing"]
theorem sc_is_hour : FnScope N_is_hour ["thing"] (defScope (top 13)) := ⟨rfl, rfl, rfl, by decide +kernel, rfl, by decide +kernel, by decide +kernel⟩
theorem fg_is_hour (T : Tp K mg) (D_is_whole : Dn P w K mg base Tb "is_whole" 1 ["thing"] S_is_whole) {fd : FuncData} (Fn : Fun K "is_hour" "is_hour" (top 13) (He.ga K "is_hour") fd) : FnG P w K mg base Tb 2 (He.ga K "is_hour") fd ["thing"] S_is_hour := by
  refine dfn 0 Fn sc_is_hour len_is_hour cels_is_hour fun cdv A outer s H hr hA => ⟨_, (sone (sret (m := 0) (dx (dandV (dfrz (dcn D_is_whole (hr.mono (by decide)) hA (acons (dv 0) anil))) (done (dchain op_le op_le opr_le opr_le di (dv 0) (dnum (c_LAST_HOUR T)))))))), fun as Q h => ?_⟩
  unfold S_is_hour at h
  split at h
  · unfold q_is_hour at h
    rename_i x0
    refine at_env (b := [.dat x0]) rfl ?_
    exact Eq.mp (by kernel_rfl) h
  · exact h.elim
theorem ok_is_hour (T : Tp K mg) (D_is_whole : Dn P w K mg base Tb "is_whole" 1 ["thing"] S_is_whole) : Dn P w K mg base Tb "is_hour" 2 ["thing"] S_is_hour := by
  obtain ⟨kV, doc, pm, an, cdv, ct, Fn⟩ := T.fun_ "is_hour" (top 13) 2 42
  exact ⟨⟨_, fg_is_hour T D_is_whole Fn, Fn.binds (ps := ["thing"]) fun _ _ _ _ _ _ us hl => match us, hl with | [_], _ => rfl⟩, T.glo "is_hour" 18, T.keep "is_hour" 42⟩
def kk_is_row : RT → (PyData → Prop) := fun R v => R (.dat v) []
def S_is_row : DSp := fun as Q => match as with
  | [.dat x0] => q_is_row x0 (kk_is_row Q)
  | _ => False
theorem len_is_row (as : List SD) (Q : SD → List SD → Prop) (h : S_is_row as Q) : as.length = 1 := by
  unfold S_is_row at h
  split at h
  · rfl
  · exact h.elim
theorem cels_is_row : CelsIn 0 S_is_row := by
  intro as Q h i p xs e
  unfold S_is_row at h
  split at h
  · exact absurd e (no_cel (ds := [_]) i p xs)
  · exact h.elim
def N_is_row : List Str := ["thing"]
theorem sc_is_row : FnScope N_is_row ["thing"] (defScope (top 14)) := ⟨rfl, rfl, rfl, by decide +kernel, rfl, by decide +kernel, by decide +kernel⟩
theorem fg_is_row (T : Tp K mg) (D_is_hour : Dn P w K mg base Tb "is_hour" 2 ["thing"] S_is_hour) (D_is_name : Dn P w K mg base Tb "is_name" 1 ["thing"] S_is_name) {fd : FuncData} (Fn : Fun K "is_row" "is_row" (top 14) (He.ga K "is_row") fd) : FnG P w K mg base Tb 3 (He.ga K "is_row") fd ["thing"] S_is_row := by
  refine dfn 0 Fn sc_is_row len_is_row cels_is_row fun cdv A outer s H hr hA => ⟨_, (scons (sif (tor (tnot (dtest (disi "tuple" "tuple" (m_isinstance T) (m_tuple T) (by decide +kernel) (by decide +kernel) (dv 0)))) (tor (dcmpT (op_neE hr.units) opd_ne (dlen (m_len T) (acons (dv 0) anil)) di (nomark _)) (tor (tnot (dtest (dfrz (dcn D_is_name (hr.mono (by decide)) hA (acons (dixP (dv 0) di) anil))))) (tor1 (tnot (dtest (dfrz (dcn D_is_hour (hr.mono (by decide)) hA (acons (dixP (dv 0) di) anil))))))))).pt (sone (sret (m := 0) (dx db))) snil) (sone (sret (m := 0) (dx (dandV (dorV (dfrz (dcn D_is_name (hr.mono (by decide)) hA (acons (dixP (dv 0) di) anil))) (done (dandV (disi "str" "str" (m_isinstance T) (m_str T) (by decide +kernel) (by decide +kernel) (dixP (dv 0) di)) (done (dcmp (op_eqE hr.units) opd_eq (dixP (dv 0) di) ds (nomark _)))))) (done (dfrz (dcn D_is_name (hr.mono (by decide)) hA (acons (dixP (dv 0) di) anil))))))))), fun as Q h => ?_⟩
  unfold S_is_row at h
  split at h
  · unfold q_is_row at h
    rename_i x0
    refine at_env (b := [.dat x0]) rfl ?_
    exact Eq.mp (by kernel_rfl) h
  · exact h.elim
theorem ok_is_row (T : Tp K mg) (D_is_hour : Dn P w K mg base Tb "is_hour" 2 ["thing"] S_is_hour) (D_is_name : Dn P w K mg base Tb "is_name" 1 ["thing"] S_is_name) : Dn P w K mg base Tb "is_row" 3 ["thing"] S_is_row := by
  obtain ⟨kV, doc, pm, an, cdv, ct, Fn⟩ := T.fun_ "is_row" (top 14) 3 43
  exact ⟨⟨_, fg_is_row T D_is_hour D_is_name Fn, Fn.binds (ps := ["thing"]) fun _ _ _ _ _ _ us hl => match us, hl with | [_], _ => rfl⟩, T.glo "is_row" 19, T.keep "is_row" 43⟩
def kk_is_roll : RT → (PyData → Prop) := fun R v => R (.dat v) []
def em_is_roll_1 (i : PyData) (s : Unit) : List SD := [.dat i, .un]
def de_is_roll_1 : List SD → Option ((PyData) × (Unit))
  | [.dat x0, .un] => some (x0, ())
  | _ => none
theorem hde_is_roll_1 : ∀ env i s, de_is_roll_1 env = some (i, s) → env = em_is_roll_1 i s := by
  intro env i s h
  unfold de_is_roll_1 at h
  split at h
  · cases h; rfl
  · cases h
def em_is_roll_2 (i : PyData) (s : Unit) : List SD := [.dat i, .un]
def de_is_roll_2 : List SD → Option ((PyData) × (Unit))
  | [.dat x0, .un] => some (x0, ())
  | _ => none
theorem hde_is_roll_2 : ∀ env i s, de_is_roll_2 env = some (i, s) → env = em_is_roll_2 i s := by
  intro env i s h
  unfold de_is_roll_2 at h
  split at h
  · cases h; rfl
  · cases h
def S_is_roll : DSp := fun as Q => match as with
  | [.dat x0] => q_is_roll x0 (kk_is_roll Q)
  | _ => False
theorem len_is_roll (as : List SD) (Q : SD → List SD → Prop) (h : S_is_roll as Q) : as.length = 1 := by
  unfold S_is_roll at h
  split at h
  · rfl
  · exact h.elim
theorem cels_is_roll : CelsIn 0 S_is_roll := by
  intro as Q h i p xs e
  unfold S_is_roll at h
  split at h
  · exact absurd e (no_cel (ds := [_]) i p xs)
  · exact h.elim
def N_is_roll : List Str := ["thing", "row"]
theorem sc_is_roll : FnScope N_is_roll ["thing"] (defScope (top 15)) := ⟨rfl, rfl, rfl, by decide +kernel, rfl, by decide +kernel, by decide +kernel⟩
theorem fg_is_roll (T : Tp K mg) (D_is_row : Dn P w K mg base Tb "is_row" 3 ["thing"] S_is_row) {fd : FuncData} (Fn : Fun K "is_roll" "is_roll" (top 15) (He.ga K "is_roll") fd) : FnG P w K mg base Tb 4 (He.ga K "is_roll") fd ["thing"] S_is_roll := by
  refine dfn 0 Fn sc_is_roll len_is_roll cels_is_roll fun cdv A outer s H hr hA => ⟨_, (scons (sif (tor (tnot (dtest (disi "tuple" "tuple" (m_isinstance T) (m_tuple T) (by decide +kernel) (by decide +kernel) (dv 0)))) (tor (dcmpT op_gt opr_gt (dlen (m_len T) (acons (dv 0) anil)) (dnum (c_MOST_ROWS T)) (nomark _)) (tor1 (tnot (dtest (dall (m_all T) rfl (acons (dfrz (dlc (dec := de_is_roll_1) (emb := em_is_roll_1) (qb := qb_is_roll_1) [("row", 1)] (.one 1) hde_is_roll_1 rfl sc_is_roll.nd (iseq (dv 0)) (blkOk_by (own := [("row", 1)]) (N := N_is_roll) (sc := defScope (top 15)) (by decide +kernel)) (fun _ _ _ _ _ => pg_name (i := 1) sc_is_roll.nd rfl (Or.inl rfl)) (fun _ _ _ _ _ => tyes) (fun _ _ _ _ _ => (dfrz (dcn D_is_row (hr.mono (by decide)) hA (acons (dv 1) anil)))) (fun d i s sk yd h => Eq.mp (by kernel_rfl) h))) anil))))))).pt (sone (sret (m := 0) (dx db))) snil) (sone (sret (m := 0) (dx (dcmp (op_eqE hr.units) opd_eq (dlenSetT hr (by rfl) (m_len T) (m_set T) (dfrz (dlc (dec := de_is_roll_2) (emb := em_is_roll_2) (qb := qb_is_roll_2) [("row", 1)] (.one 1) hde_is_roll_2 rfl sc_is_roll.nd (iseq (dv 0)) (blkOk_by (own := [("row", 1)]) (N := N_is_roll) (sc := defScope (top 15)) (by decide +kernel)) (fun _ _ _ _ _ => pg_name (i := 1) sc_is_roll.nd rfl (Or.inl rfl)) (fun _ _ _ _ _ => tyes) (fun _ _ _ _ _ => (dsl (dv 1) so_none (so_some di))) (fun d i s sk yd h => Eq.mp (by kernel_rfl) h)))) (dlen (m_len T) (acons (dv 0) anil)) (nomark _)))))), fun as Q h => ?_⟩
  unfold S_is_roll at h
  split at h
  · unfold q_is_roll at h
    rename_i x0
    refine at_env (b := [.dat x0, .un]) rfl ?_
    exact Eq.mp (by kernel_rfl) h
  · exact h.elim
theorem ok_is_roll (T : Tp K mg) (D_is_row : Dn P w K mg base Tb "is_row" 3 ["thing"] S_is_row) : Dn P w K mg base Tb "is_roll" 4 ["thing"] S_is_roll := by
  obtain ⟨kV, doc, pm, an, cdv, ct, Fn⟩ := T.fun_ "is_roll" (top 15) 4 44
  exact ⟨⟨_, fg_is_roll T D_is_row Fn, Fn.binds (ps := ["thing"]) fun _ _ _ _ _ _ us hl => match us, hl with | [_], _ => rfl⟩, T.glo "is_roll" 20, T.keep "is_roll" 44⟩
def kk_need_roll : RT → (PyData → Prop) := fun R v => R (.dat v) []
def S_need_roll : DSp := fun as Q => match as with
  | [.dat x0] => q_need_roll x0 (kk_need_roll Q)
  | _ => False
theorem len_need_roll (as : List SD) (Q : SD → List SD → Prop) (h : S_need_roll as Q) : as.length = 1 := by
  unfold S_need_roll at h
  split at h
  · rfl
  · exact h.elim
theorem cels_need_roll : CelsIn 0 S_need_roll := by
  intro as Q h i p xs e
  unfold S_need_roll at h
  split at h
  · exact absurd e (no_cel (ds := [_]) i p xs)
  · exact h.elim
def N_need_roll : List Str := ["thing"]
theorem sc_need_roll : FnScope N_need_roll ["thing"] (defScope (top 16)) := ⟨rfl, rfl, rfl, by decide +kernel, rfl, by decide +kernel, by decide +kernel⟩
theorem fg_need_roll (T : Tp K mg) (D_is_roll : Dn P w K mg base Tb "is_roll" 4 ["thing"] S_is_roll) {fd : FuncData} (Fn : Fun K "need_roll" "need_roll" (top 16) (He.ga K "need_roll") fd) : FnG P w K mg base Tb 5 (He.ga K "need_roll") fd ["thing"] S_need_roll := by
  refine dfn 0 Fn sc_need_roll len_need_roll cels_need_roll fun cdv A outer s H hr hA => ⟨_, (sone (sif (tnot (dtest (dfrz (dcn D_is_roll (hr.mono (by decide)) hA (acons (dv 0) anil))))) (sone snever) snil)), fun as Q h => ?_⟩
  unfold S_need_roll at h
  split at h
  · unfold q_need_roll at h
    rename_i x0
    refine at_env (b := [.dat x0]) rfl ?_
    exact Eq.mp (by kernel_rfl) h
  · exact h.elim
theorem ok_need_roll (T : Tp K mg) (D_is_roll : Dn P w K mg base Tb "is_roll" 4 ["thing"] S_is_roll) : Dn P w K mg base Tb "need_roll" 5 ["thing"] S_need_roll := by
  obtain ⟨kV, doc, pm, an, cdv, ct, Fn⟩ := T.fun_ "need_roll" (top 16) 5 45
  exact ⟨⟨_, fg_need_roll T D_is_roll Fn, Fn.binds (ps := ["thing"]) fun _ _ _ _ _ _ us hl => match us, hl with | [_], _ => rfl⟩, T.glo "need_roll" 21, T.keep "need_roll" 45⟩
def kk_need_name : RT → (PyData → Prop) := fun R v => R (.dat v) []
def S_need_name : DSp := fun as Q => match as with
  | [.dat x0] => q_need_name x0 (kk_need_name Q)
  | _ => False
theorem len_need_name (as : List SD) (Q : SD → List SD → Prop) (h : S_need_name as Q) : as.length = 1 := by
  unfold S_need_name at h
  split at h
  · rfl
  · exact h.elim
theorem cels_need_name : CelsIn 0 S_need_name := by
  intro as Q h i p xs e
  unfold S_need_name at h
  split at h
  · exact absurd e (no_cel (ds := [_]) i p xs)
  · exact h.elim
def N_need_name : List Str := ["thing"]
theorem sc_need_name : FnScope N_need_name ["thing"] (defScope (top 17)) := ⟨rfl, rfl, rfl, by decide +kernel, rfl, by decide +kernel, by decide +kernel⟩
theorem fg_need_name (T : Tp K mg) (D_is_name : Dn P w K mg base Tb "is_name" 1 ["thing"] S_is_name) {fd : FuncData} (Fn : Fun K "need_name" "need_name" (top 17) (He.ga K "need_name") fd) : FnG P w K mg base Tb 2 (He.ga K "need_name") fd ["thing"] S_need_name := by
  refine dfn 0 Fn sc_need_name len_need_name cels_need_name fun cdv A outer s H hr hA => ⟨_, (sone (sif (tnot (dtest (dfrz (dcn D_is_name (hr.mono (by decide)) hA (acons (dv 0) anil))))) (sone snever) snil)), fun as Q h => ?_⟩
  unfold S_need_name at h
  split at h
  · unfold q_need_name at h
    rename_i x0
    refine at_env (b := [.dat x0]) rfl ?_
    exact Eq.mp (by kernel_rfl) h
  · exact h.elim
theorem ok_need_name (T : Tp K mg) (D_is_name : Dn P w K mg base Tb "is_name" 1 ["thing"] S_is_name) : Dn P w K mg base Tb "need_name" 2 ["thing"] S_need_name := by
  obtain ⟨kV, doc, pm, an, cdv, ct, Fn⟩ := T.fun_ "need_name" (top 17) 6 46
  exact ⟨⟨_, fg_need_name T D_is_name Fn, Fn.binds (ps := ["thing"]) fun _ _ _ _ _ _ us hl => match us, hl with | [_], _ => rfl⟩, T.glo "need_name" 22, T.keep "need_name" 46⟩
def kk_need_hour : RT → (PyData → Prop) := fun R v => R (.dat v) []
def S_need_hour : DSp := fun as Q => match as with
  | [.dat x0] => q_need_hour x0 (kk_need_hour Q)
  | _ => False
theorem len_need_hour (as : List SD) (Q : SD → List SD → Prop) (h : S_need_hour as Q) : as.length = 1 := by
  unfold S_need_hour at h
  split at h
  · rfl
  · exact h.elim
theorem cels_need_hour : CelsIn 0 S_need_hour := by
  intro as Q h i p xs e
  unfold S_need_hour at h
  split at h
  · exact absurd e (no_cel (ds := [_]) i p xs)
  · exact h.elim
def N_need_hour : List Str := ["thing"]
theorem sc_need_hour : FnScope N_need_hour ["thing"] (defScope (top 18)) := ⟨rfl, rfl, rfl, by decide +kernel, rfl, by decide +kernel, by decide +kernel⟩
theorem fg_need_hour (T : Tp K mg) (D_is_hour : Dn P w K mg base Tb "is_hour" 2 ["thing"] S_is_hour) {fd : FuncData} (Fn : Fun K "need_hour" "need_hour" (top 18) (He.ga K "need_hour") fd) : FnG P w K mg base Tb 3 (He.ga K "need_hour") fd ["thing"] S_need_hour := by
  refine dfn 0 Fn sc_need_hour len_need_hour cels_need_hour fun cdv A outer s H hr hA => ⟨_, (sone (sif (tnot (dtest (dfrz (dcn D_is_hour (hr.mono (by decide)) hA (acons (dv 0) anil))))) (sone snever) snil)), fun as Q h => ?_⟩
  unfold S_need_hour at h
  split at h
  · unfold q_need_hour at h
    rename_i x0
    refine at_env (b := [.dat x0]) rfl ?_
    exact Eq.mp (by kernel_rfl) h
  · exact h.elim
theorem ok_need_hour (T : Tp K mg) (D_is_hour : Dn P w K mg base Tb "is_hour" 2 ["thing"] S_is_hour) : Dn P w K mg base Tb "need_hour" 3 ["thing"] S_need_hour := by
  obtain ⟨kV, doc, pm, an, cdv, ct, Fn⟩ := T.fun_ "need_hour" (top 18) 7 47
  exact ⟨⟨_, fg_need_hour T D_is_hour Fn, Fn.binds (ps := ["thing"]) fun _ _ _ _ _ _ us hl => match us, hl with | [_], _ => rfl⟩, T.glo "need_hour" 23, T.keep "need_hour" 47⟩
def kk_rows_of : RT → (PyData → Prop) := fun R v => R (.dat v) []
def em_rows_of_1 (i : PyData × PyData) (s : Unit) : List SD := [.dat i.1, .dat i.2, .un]
def de_rows_of_1 : List SD → Option ((PyData × PyData) × (Unit))
  | [.dat x0, .dat x1, .un] => some ((x0, x1), ())
  | _ => none
theorem hde_rows_of_1 : ∀ env i s, de_rows_of_1 env = some (i, s) → env = em_rows_of_1 i s := by
  intro env i s h
  unfold de_rows_of_1 at h
  split at h
  · cases h; rfl
  · cases h
def S_rows_of : DSp := fun as Q => match as with
  | [.dat x0, .dat x1] => q_rows_of x0 x1 (kk_rows_of Q)
  | _ => False
theorem len_rows_of (as : List SD) (Q : SD → List SD → Prop) (h : S_rows_of as Q) : as.length = 2 := by
  unfold S_rows_of at h
  split at h
  · rfl
  · exact h.elim
theorem cels_rows_of : CelsIn 0 S_rows_of := by
  intro as Q h i p xs e
  unfold S_rows_of at h
  split at h
  · exact absurd e (no_cel (ds := [_, _]) i p xs)
  · exact h.elim
def N_rows_of : List Str := ["roll", "man", "row"]
theorem sc_rows_of : FnScope N_rows_of ["roll", "man"] (defScope (top 19)) := ⟨rfl, rfl, rfl, by decide +kernel, rfl, by decide +kernel, by decide +kernel⟩
theorem fg_rows_of (T : Tp K mg)  {fd : FuncData} (Fn : Fun K "rows_of" "rows_of" (top 19) (He.ga K "rows_of") fd) : FnG P w K mg base Tb 1 (He.ga K "rows_of") fd ["roll", "man"] S_rows_of := by
  refine dfn 0 Fn sc_rows_of len_rows_of cels_rows_of fun cdv A outer s H hr hA => ⟨_, (sone (sret (m := 0) (dx (dfrz (dsorted hr (m_sorted T) (dfrz (dlc (dec := de_rows_of_1) (emb := em_rows_of_1) (qb := qb_rows_of_1) [("row", 2)] (.one 2) hde_rows_of_1 rfl sc_rows_of.nd (iseq (dv 0)) (blkOk_by (own := [("row", 2)]) (N := N_rows_of) (sc := defScope (top 19)) (by decide +kernel)) (fun _ _ _ _ _ => pg_name (i := 2) sc_rows_of.nd rfl (Or.inl rfl)) (fun _ _ _ _ _ => tif1 (dcmpT (op_eqE hr.units) opd_eq (dixP (dv 2) di) (dv 1) (nomark _))) (fun _ _ _ _ _ => (dsl (dv 2) (so_some di) so_none)) (fun d i s sk yd h => Eq.mp (by kernel_rfl) h)))))))), fun as Q h => ?_⟩
  unfold S_rows_of at h
  split at h
  · unfold q_rows_of at h
    rename_i x0 x1
    refine at_env (b := [.dat x0, .dat x1, .un]) rfl ?_
    exact Eq.mp (by kernel_rfl) h
  · exact h.elim
theorem ok_rows_of (T : Tp K mg)  : Dn P w K mg base Tb "rows_of" 1 ["roll", "man"] S_rows_of := by
  obtain ⟨kV, doc, pm, an, cdv, ct, Fn⟩ := T.fun_ "rows_of" (top 19) 8 48
  exact ⟨⟨_, fg_rows_of T  Fn, Fn.binds (ps := ["roll", "man"]) fun _ _ _ _ _ _ us hl => match us, hl with | [_, _], _ => rfl⟩, T.glo "rows_of" 24, T.keep "rows_of" 48⟩
def kk_standing : RT → (PyData → Prop) := fun R v => R (.dat v) []
def em_standing_1 (i : PyData) (s : PyData) : List SD := [.un, .dat i, .dat s, .un, .un, .un, .un]
def de_standing_1 : List SD → Option ((PyData) × (PyData))
  | [.un, .dat x1, .dat x2, .un, .un, .un, .un] => some (x1, x2)
  | _ => none
theorem hde_standing_1 : ∀ env i s, de_standing_1 env = some (i, s) → env = em_standing_1 i s := by
  intro env i s h
  unfold de_standing_1 at h
  split at h
  · cases h; rfl
  · cases h
def S_standing : DSp := fun as Q => match as with
  | [.dat x0, .dat x1] => q_standing x0 x1 (kk_standing Q)
  | _ => False
theorem len_standing (as : List SD) (Q : SD → List SD → Prop) (h : S_standing as Q) : as.length = 2 := by
  unfold S_standing at h
  split at h
  · rfl
  · exact h.elim
theorem cels_standing : CelsIn 0 S_standing := by
  intro as Q h i p xs e
  unfold S_standing at h
  split at h
  · exact absurd e (no_cel (ds := [_, _]) i p xs)
  · exact h.elim
def N_standing : List Str := ["rows", "hour", "found", "begun", "ship", "rank", "since"]
theorem sc_standing : FnScope N_standing ["rows", "hour"] (defScope (top 20)) := ⟨rfl, rfl, rfl, by decide +kernel, rfl, by decide +kernel, by decide +kernel⟩
theorem fg_standing (T : Tp K mg)  {fd : FuncData} (Fn : Fun K "standing" "standing" (top 20) (He.ga K "standing") fd) : FnG P w K mg base Tb 1 (He.ga K "standing") fd ["rows", "hour"] S_standing := by
  refine dfn 0 Fn sc_standing len_standing cels_standing fun cdv A outer s H hr hA => ⟨_, (scons (sset 2 sc_standing.nd (dx dn)) (scons (sforQ [0, 3, 4, 5, 6] de_standing_1 em_standing_1 kk_standing qb_standing_1 hde_standing_1 PassesOwn.never rfl (iseq (dv 0)) (gtup (gl_cons gok_n (gl_cons gok_n (gl_cons gok_n gl_nil))) rfl (gcons (gn 3 sc_standing.nd) (gcons (gn 4 sc_standing.nd) (gcons (gn 5 sc_standing.nd) gnil)))) (sone (sif (dcmpT op_le opr_le (dv 3) (dv 1) (nomark _)) (scons (sset 6 sc_standing.nd (dx (dv 3))) (ssforget [3] (scons (sif (tand (tnotN (dv 2)) (tand1 (dcmpT (op_eqE hr.units) opd_eq (dixP (dv 2) di) (dv 5) (nomark _)))).pt (sone (sset 6 sc_standing.nd (dx (dixP (dv 2) di)))) snil) (sone (sset 2 sc_standing.nd (dx (dtup (acons (dv 4) (acons (dv 5) (acons (dv 6) anil)))))))))) snil)) (fun R d i s nx bk h => Eq.mp (by kernel_rfl) h)) (sone (sret (m := 0) (dx (dv 2)))))), fun as Q h => ?_⟩
  unfold S_standing at h
  split at h
  · unfold q_standing at h
    rename_i x0 x1
    refine at_env (b := [.dat x0, .dat x1, .un, .un, .un, .un, .un]) rfl ?_
    exact Eq.mp (by kernel_rfl) h
  · exact h.elim
theorem ok_standing (T : Tp K mg)  : Dn P w K mg base Tb "standing" 1 ["rows", "hour"] S_standing := by
  obtain ⟨kV, doc, pm, an, cdv, ct, Fn⟩ := T.fun_ "standing" (top 20) 9 49
  exact ⟨⟨_, fg_standing T  Fn, Fn.binds (ps := ["rows", "hour"]) fun _ _ _ _ _ _ us hl => match us, hl with | [_, _], _ => rfl⟩, T.glo "standing" 25, T.keep "standing" 49⟩
def kk_where_at : RT → (PyData → Prop) := fun R v => R (.dat v) []
def S_where_at : DSp := fun as Q => match as with
  | [.dat x0, .dat x1, .dat x2] => q_where_at x0 x1 x2 (kk_where_at Q)
  | _ => False
theorem len_where_at (as : List SD) (Q : SD → List SD → Prop) (h : S_where_at as Q) : as.length = 3 := by
  unfold S_where_at at h
  split at h
  · rfl
  · exact h.elim
theorem cels_where_at : CelsIn 0 S_where_at := by
  intro as Q h i p xs e
  unfold S_where_at at h
  split at h
  · exact absurd e (no_cel (ds := [_, _, _]) i p xs)
  · exact h.elim
def N_where_at : List Str := ["roll", "man", "hour"]
theorem sc_where_at : FnScope N_where_at ["roll", "man", "hour"] (defScope (top 21)) := ⟨rfl, rfl, rfl, by decide +kernel, rfl, by decide +kernel, by decide +kernel⟩
theorem fg_where_at (T : Tp K mg) (D_need_hour : Dn P w K mg base Tb "need_hour" 3 ["thing"] S_need_hour) (D_need_name : Dn P w K mg base Tb "need_name" 2 ["thing"] S_need_name) (D_need_roll : Dn P w K mg base Tb "need_roll" 5 ["thing"] S_need_roll) (D_rows_of : Dn P w K mg base Tb "rows_of" 1 ["roll", "man"] S_rows_of) (D_standing : Dn P w K mg base Tb "standing" 1 ["rows", "hour"] S_standing) {fd : FuncData} (Fn : Fun K "where_at" "where_at" (top 21) (He.ga K "where_at") fd) : FnG P w K mg base Tb 6 (He.ga K "where_at") fd ["roll", "man", "hour"] S_where_at := by
  refine dfn 0 Fn sc_where_at len_where_at cels_where_at fun cdv A outer s H hr hA => ⟨_, (scons (sexpr (dcn D_need_roll (hr.mono (by decide)) hA (acons (dv 0) anil))) (scons (sexpr (dcn D_need_name (hr.mono (by decide)) hA (acons (dv 1) anil))) (scons (sexpr (dcn D_need_hour (hr.mono (by decide)) hA (acons (dv 2) anil))) (sone (sret (m := 0) (dx (dfrz (dcn D_standing (hr.mono (by decide)) hA (acons (dfrz (dcn D_rows_of (hr.mono (by decide)) hA (acons (dv 0) (acons (dv 1) anil)))) (acons (dv 2) anil)))))))))), fun as Q h => ?_⟩
  unfold S_where_at at h
  split at h
  · unfold q_where_at at h
    rename_i x0 x1 x2
    refine at_env (b := [.dat x0, .dat x1, .dat x2]) rfl ?_
    exact Eq.mp (by kernel_rfl) h
  · exact h.elim
theorem ok_where_at (T : Tp K mg) (D_need_hour : Dn P w K mg base Tb "need_hour" 3 ["thing"] S_need_hour) (D_need_name : Dn P w K mg base Tb "need_name" 2 ["thing"] S_need_name) (D_need_roll : Dn P w K mg base Tb "need_roll" 5 ["thing"] S_need_roll) (D_rows_of : Dn P w K mg base Tb "rows_of" 1 ["roll", "man"] S_rows_of) (D_standing : Dn P w K mg base Tb "standing" 1 ["rows", "hour"] S_standing) : Dn P w K mg base Tb "where_at" 6 ["roll", "man", "hour"] S_where_at := by
  obtain ⟨kV, doc, pm, an, cdv, ct, Fn⟩ := T.fun_ "where_at" (top 21) 10 50
  exact ⟨⟨_, fg_where_at T D_need_hour D_need_name D_need_roll D_rows_of D_standing Fn, Fn.binds (ps := ["roll", "man", "hour"]) fun _ _ _ _ _ _ us hl => match us, hl with | [_, _, _], _ => rfl⟩, T.glo "where_at" 26, T.keep "where_at" 50⟩
def kk_by_since : RT → (PyData → Prop) := fun R v => R (.dat v) []
def S_by_since : DSp := fun as Q => match as with
  | [.dat x0] => q_by_since x0 (kk_by_since Q)
  | _ => False
theorem len_by_since (as : List SD) (Q : SD → List SD → Prop) (h : S_by_since as Q) : as.length = 1 := by
  unfold S_by_since at h
  split at h
  · rfl
  · exact h.elim
theorem cels_by_since : CelsIn 0 S_by_since := by
  intro as Q h i p xs e
  unfold S_by_since at h
  split at h
  · exact absurd e (no_cel (ds := [_]) i p xs)
  · exact h.elim
def N_by_since : List Str := ["crew"]
theorem sc_by_since : FnScope N_by_since ["crew"] (defScope (top 22)) := ⟨rfl, rfl, rfl, by decide +kernel, rfl, by decide +kernel, by decide +kernel⟩
theorem fg_by_since (T : Tp K mg)  {fd : FuncData} (Fn : Fun K "by_since" "by_since" (top 22) (He.ga K "by_since") fd) : FnG P w K mg base Tb 1 (He.ga K "by_since") fd ["crew"] S_by_since := by
  refine dfnL lam 0 0 Fn sc_by_since len_by_since cels_by_since rfl fun cdv A outer s H LC hr hA => ⟨_, (sone (sret (m := 0) (dx (dtupleOf (m_tuple T) (acons (dfrz (dsortedK (.two (.ix .it 2) (.ix .it 0)) hr (m_sorted T) LC (dv 0) (.two (.ix (i := 2) .it (by decide)) (.ix (i := 0) .it (by decide)) fun _ => rfl) ⟨rfl, rfl, rfl, rfl, by decide⟩ (fun _ _ _ _ _ => rfl))) anil))))), fun as Q h => ?_⟩
  unfold S_by_since at h
  split at h
  · unfold q_by_since at h
    rename_i x0
    refine at_env (b := [.dat x0]) rfl ?_
    exact Eq.mp (by kernel_rfl) h
  · exact h.elim
theorem ok_by_since (T : Tp K mg)  : Dn P w K mg base Tb "by_since" 1 ["crew"] S_by_since := by
  obtain ⟨kV, doc, pm, an, cdv, ct, Fn⟩ := T.fun_ "by_since" (top 22) 11 51
  exact ⟨⟨_, fg_by_since T  Fn, Fn.binds (ps := ["crew"]) fun _ _ _ _ _ _ us hl => match us, hl with | [_], _ => rfl⟩, T.glo "by_since" 27, T.keep "by_since" 51⟩
def kk_crew_at : RT → (PyData → Prop) := fun R v => R (.dat v) []
def em_crew_at_1 (i : PyData × PyData × PyData × List PyData) (s : Unit) : List SD := [.dat i.1, .dat i.2.1, .dat i.2.2.1, .cel false i.2.2.2, .un, .un, .un]
def de_crew_at_1 : List SD → Option ((PyData × PyData × PyData × List PyData) × (Unit))
  | [.dat x0, .dat x1, .dat x2, .cel false x3, .un, .un, .un] => some ((x0, x1, x2, x3), ())
  | _ => none
theorem hde_crew_at_1 : ∀ env i s, de_crew_at_1 env = some (i, s) → env = em_crew_at_1 i s := by
  intro env i s h
  unfold de_crew_at_1 at h
  split at h
  · cases h; rfl
  · cases h
def em_crew_at_2 (i : PyData × PyData × PyData) (s : List PyData) : List SD := [.dat i.1, .dat i.2.1, .dat i.2.2, .cel false s, .un, .un, .un]
def de_crew_at_2 : List SD → Option ((PyData × PyData × PyData) × (List PyData))
  | [.dat x0, .dat x1, .dat x2, .cel false x3, .un, .un, .un] => some ((x0, x1, x2), x3)
  | _ => none
theorem hde_crew_at_2 : ∀ env i s, de_crew_at_2 env = some (i, s) → env = em_crew_at_2 i s := by
  intro env i s h
  unfold de_crew_at_2 at h
  split at h
  · cases h; rfl
  · cases h
def S_crew_at : DSp := fun as Q => match as with
  | [.dat x0, .dat x1, .dat x2] => q_crew_at x0 x1 x2 (kk_crew_at Q)
  | _ => False
theorem len_crew_at (as : List SD) (Q : SD → List SD → Prop) (h : S_crew_at as Q) : as.length = 3 := by
  unfold S_crew_at at h
  split at h
  · rfl
  · exact h.elim
theorem cels_crew_at : CelsIn 0 S_crew_at := by
  intro as Q h i p xs e
  unfold S_crew_at at h
  split at h
  · exact absurd e (no_cel (ds := [_, _, _]) i p xs)
  · exact h.elim
def N_crew_at : List Str := ["roll", "ship", "hour", "found", "man", "there", "row"]
theorem sc_crew_at : FnScope N_crew_at ["roll", "ship", "hour"] (defScope (top 23)) := ⟨rfl, rfl, rfl, by decide +kernel, rfl, by decide +kernel, by decide +kernel⟩
theorem fg_crew_at (T : Tp K mg) (D_by_since : Dn P w K mg base Tb "by_since" 1 ["crew"] S_by_since) (D_need_hour : Dn P w K mg base Tb "need_hour" 3 ["thing"] S_need_hour) (D_need_name : Dn P w K mg base Tb "need_name" 2 ["thing"] S_need_name) (D_need_roll : Dn P w K mg base Tb "need_roll" 5 ["thing"] S_need_roll) (D_rows_of : Dn P w K mg base Tb "rows_of" 1 ["roll", "man"] S_rows_of) (D_standing : Dn P w K mg base Tb "standing" 1 ["rows", "hour"] S_standing) {fd : FuncData} (Fn : Fun K "crew_at" "crew_at" (top 23) (He.ga K "crew_at") fd) : FnG P w K mg base Tb 6 (He.ga K "crew_at") fd ["roll", "ship", "hour"] S_crew_at := by
  refine dfn 0 Fn sc_crew_at len_crew_at cels_crew_at fun cdv A outer s H hr hA => ⟨_, (scons (sexpr (dcn D_need_roll (hr.mono (by decide)) hA (acons (dv 0) anil))) (scons (sexpr (dcn D_need_name (hr.mono (by decide)) hA (acons (dv 1) anil))) (scons (sexpr (dcn D_need_hour (hr.mono (by decide)) hA (acons (dv 2) anil))) (scons (sset 3 sc_crew_at.nd (dlst anil)) (scons (sforQ [4, 5] de_crew_at_2 em_crew_at_2 kk_crew_at qb_crew_at_2 hde_crew_at_2 PassesOwn.never rfl (iseq (dfrz (dsortSetT (by rfl) (m_sorted T) (m_set T) (dfrz (dlc (dec := de_crew_at_1) (emb := em_crew_at_1) (qb := qb_crew_at_1) [("row", 6)] (.one 6) hde_crew_at_1 rfl sc_crew_at.nd (iseq (dv 0)) (blkOk_by (own := [("row", 6)]) (N := N_crew_at) (sc := defScope (top 23)) (by decide +kernel)) (fun _ _ _ _ _ => pg_name (i := 6) sc_crew_at.nd rfl (Or.inl rfl)) (fun _ _ _ _ _ => tyes) (fun _ _ _ _ _ => (dixP (dv 6) di)) (fun d i s sk yd h => Eq.mp (by kernel_rfl) h)))))) (gn 4 sc_crew_at.nd) (scons (sset 5 sc_crew_at.nd (dcn D_standing (hr.mono (by decide)) hA (acons (dfrz (dcn D_rows_of (hr.mono (by decide)) hA (acons (dv 0) (acons (dv 4) anil)))) (acons (dv 2) anil)))) (sone (sif (tand (tnotN (dv 5)) (tand1 (dcmpT (op_eqE hr.units) opd_eq (dixP (dv 5) di) (dv 1) (nomark _)))).pt (sone (sapp 3 (dtup (acons (dv 4) (acons (dixP (dv 5) di) (acons (dixP (dv 5) di) anil)))))) snil))) (fun R d i s nx bk h => Eq.mp (by kernel_rfl) h)) (ssfreeze2 3 (sone (sret (m := 0) (dx (dfrz (dcn D_by_since (hr.mono (by decide)) hA (acons (dv 3) anil)))))))))))), fun as Q h => ?_⟩
  unfold S_crew_at at h
  split at h
  · unfold q_crew_at at h
    rename_i x0 x1 x2
    refine at_env (b := [.dat x0, .dat x1, .dat x2, .un, .un, .un, .un]) rfl ?_
    exact Eq.mp (by kernel_rfl) h
  · exact h.elim
theorem ok_crew_at (T : Tp K mg) (D_by_since : Dn P w K mg base Tb "by_since" 1 ["crew"] S_by_since) (D_need_hour : Dn P w K mg base Tb "need_hour" 3 ["thing"] S_need_hour) (D_need_name : Dn P w K mg base Tb "need_name" 2 ["thing"] S_need_name) (D_need_roll : Dn P w K mg base Tb "need_roll" 5 ["thing"] S_need_roll) (D_rows_of : Dn P w K mg base Tb "rows_of" 1 ["roll", "man"] S_rows_of) (D_standing : Dn P w K mg base Tb "standing" 1 ["rows", "hour"] S_standing) : Dn P w K mg base Tb "crew_at" 6 ["roll", "ship", "hour"] S_crew_at := by
  obtain ⟨kV, doc, pm, an, cdv, ct, Fn⟩ := T.fun_ "crew_at" (top 23) 12 52
  exact ⟨⟨_, fg_crew_at T D_by_since D_need_hour D_need_name D_need_roll D_rows_of D_standing Fn, Fn.binds (ps := ["roll", "ship", "hour"]) fun _ _ _ _ _ _ us hl => match us, hl with | [_, _, _], _ => rfl⟩, T.glo "crew_at" 28, T.keep "crew_at" 52⟩
def kk_stays_of : RT → (PyData → Prop) := fun R v => R (.dat v) []
def em_stays_of_1 (i : Unit) (s : List PyData) : List SD := [.un, .un, .cel false s, .un, .un, .un]
def de_stays_of_1 : List SD → Option ((Unit) × (List PyData))
  | [.un, .un, .cel false x2, .un, .un, .un] => some ((), x2)
  | _ => none
theorem hde_stays_of_1 : ∀ env i s, de_stays_of_1 env = some (i, s) → env = em_stays_of_1 i s := by
  intro env i s h
  unfold de_stays_of_1 at h
  split at h
  · cases h; rfl
  · cases h
def S_stays_of : DSp := fun as Q => match as with
  | [.dat x0, .dat x1] => q_stays_of x0 x1 (kk_stays_of Q)
  | _ => False
theorem len_stays_of (as : List SD) (Q : SD → List SD → Prop) (h : S_stays_of as Q) : as.length = 2 := by
  unfold S_stays_of at h
  split at h
  · rfl
  · exact h.elim
theorem cels_stays_of : CelsIn 0 S_stays_of := by
  intro as Q h i p xs e
  unfold S_stays_of at h
  split at h
  · exact absurd e (no_cel (ds := [_, _]) i p xs)
  · exact h.elim
def N_stays_of : List Str := ["roll", "man", "found", "hour", "ship", "rank"]
theorem sc_stays_of : FnScope N_stays_of ["roll", "man"] (defScope (top 24)) := ⟨rfl, rfl, rfl, by decide +kernel, rfl, by decide +kernel, by decide +kernel⟩
theorem fg_stays_of (T : Tp K mg) (D_need_name : Dn P w K mg base Tb "need_name" 2 ["thing"] S_need_name) (D_need_roll : Dn P w K mg base Tb "need_roll" 5 ["thing"] S_need_roll) (D_rows_of : Dn P w K mg base Tb "rows_of" 1 ["roll", "man"] S_rows_of) {fd : FuncData} (Fn : Fun K "stays_of" "stays_of" (top 24) (He.ga K "stays_of") fd) : FnG P w K mg base Tb 6 (He.ga K "stays_of") fd ["roll", "man"] S_stays_of := by
  refine dfn 0 Fn sc_stays_of len_stays_of cels_stays_of fun cdv A outer s H hr hA => ⟨_, (scons (sexpr (dcn D_need_roll (hr.mono (by decide)) hA (acons (dv 0) anil))) (scons (sexpr (dcn D_need_name (hr.mono (by decide)) hA (acons (dv 1) anil))) (scons (sset 2 sc_stays_of.nd (dlst anil)) (scons (sforQ [0, 1, 3, 4, 5] de_stays_of_1 em_stays_of_1 kk_stays_of qb_stays_of_1 hde_stays_of_1 PassesOwn.never rfl (iseq (dfrz (dcn D_rows_of (hr.mono (by decide)) hA (acons (dv 0) (acons (dv 1) anil))))) (gtup (gl_cons gok_n (gl_cons gok_n (gl_cons gok_n gl_nil))) rfl (gcons (gn 3 sc_stays_of.nd) (gcons (gn 4 sc_stays_of.nd) (gcons (gn 5 sc_stays_of.nd) gnil)))) (scons (sif (tand (tempCn 2 hr.units) (tand1 (dcmpT (op_eqE hr.units) opd_eq (dsl (dixC 2 (dneg di)) (so_some di) so_none) (dtup (acons (dv 4) (acons (dv 5) anil))) (nomark _)))).pt (sone scont) snil) (scons (sif (tempCn 2 hr.units) (sone (ssetC 2 (dadd (dtup (acons (dixP (dixC 2 (dneg di)) di) (acons (dv 3) anil))) (dsl (dixC 2 (dneg di)) (so_some di) so_none)) (dneg di))) snil) (sone (sapp 2 (dtup (acons (dv 3) (acons dn (acons (dv 4) (acons (dv 5) anil))))))))) (fun R d i s nx bk h => Eq.mp (by kernel_rfl) h)) (sone (sret (m := 0) (dx (dtupC 2 (m_tuple T))))))))), fun as Q h => ?_⟩
  unfold S_stays_of at h
  split at h
  · unfold q_stays_of at h
    rename_i x0 x1
    refine at_env (b := [.dat x0, .dat x1, .un, .un, .un, .un]) rfl ?_
    exact Eq.mp (by kernel_rfl) h
  · exact h.elim
theorem ok_stays_of (T : Tp K mg) (D_need_name : Dn P w K mg base Tb "need_name" 2 ["thing"] S_need_name) (D_need_roll : Dn P w K mg base Tb "need_roll" 5 ["thing"] S_need_roll) (D_rows_of : Dn P w K mg base Tb "rows_of" 1 ["roll", "man"] S_rows_of) : Dn P w K mg base Tb "stays_of" 6 ["roll", "man"] S_stays_of := by
  obtain ⟨kV, doc, pm, an, cdv, ct, Fn⟩ := T.fun_ "stays_of" (top 24) 13 53
  exact ⟨⟨_, fg_stays_of T D_need_name D_need_roll D_rows_of Fn, Fn.binds (ps := ["roll", "man"]) fun _ _ _ _ _ _ us hl => match us, hl with | [_, _], _ => rfl⟩, T.glo "stays_of" 29, T.keep "stays_of" 53⟩
def kk_law_pot : RT → (List PyData → Prop) := fun R v => R (.cel false v) []
def S_law_pot : DSp := fun as Q => match as with
  | [.dat x0, .dat x1] => q_law_pot x0 x1 (kk_law_pot Q)
  | _ => False
theorem len_law_pot (as : List SD) (Q : SD → List SD → Prop) (h : S_law_pot as Q) : as.length = 2 := by
  unfold S_law_pot at h
  split at h
  · rfl
  · exact h.elim
theorem cels_law_pot : CelsIn 0 S_law_pot := by
  intro as Q h i p xs e
  unfold S_law_pot at h
  split at h
  · exact absurd e (no_cel (ds := [_, _]) i p xs)
  · exact h.elim
def N_law_pot : List Str := ["_law_script", "_law_k", "_law_cell"]
theorem sc_law_pot : FnScope N_law_pot ["_law_script", "_law_k"] (defScope (top 26)) := ⟨rfl, rfl, rfl, by decide +kernel, rfl, by decide +kernel, by decide +kernel⟩
theorem fg_law_pot (T : Tp K mg)  {fd : FuncData} (Fn : Fun K "_law_pot" "_law_pot" (top 26) (He.ga K "_law_pot") fd) : FnG P w K mg base Tb 1 (He.ga K "_law_pot") fd ["_law_script", "_law_k"] S_law_pot := by
  refine dfn 0 Fn sc_law_pot len_law_pot cels_law_pot fun cdv A outer s H hr hA => ⟨_, (scons (sset 2 sc_law_pot.nd (dx di)) (scons (sif (dcmpT op_ltA opr_ltA (dv 1) (dlen (m_len T) (acons (dv 0) anil)) (nomark _)) (sone (sset 2 sc_law_pot.nd (dx (dmod (dabs (m_abs T) (acons (dixP (dv 0) (dv 1)) anil)) (dpow (dpow di di) di))))) snil) (sone (sret (m := 0) (dlst (acons (dmul (dv 2) (dintOf (m_int T) (acons (dcmp op_ge opr_ge (dv 2) (dpow di di) (nomark _)) anil))) (acons (dmod (dpow (dadd (dadd (dmod (dv 2) di) (dmul di (dv 1))) di) di) di) anil))))))), fun as Q h => ?_⟩
  unfold S_law_pot at h
  split at h
  · unfold q_law_pot at h
    rename_i x0 x1
    refine at_env (b := [.dat x0, .dat x1, .un]) rfl ?_
    exact Eq.mp (by kernel_rfl) h
  · exact h.elim
theorem ok_law_pot (T : Tp K mg)  : Dn P w K mg base Tb "_law_pot" 1 ["_law_script", "_law_k"] S_law_pot := by
  obtain ⟨kV, doc, pm, an, cdv, ct, Fn⟩ := T.fun_ "_law_pot" (top 26) 14 54
  exact ⟨⟨_, fg_law_pot T  Fn, Fn.binds (ps := ["_law_script", "_law_k"]) fun _ _ _ _ _ _ us hl => match us, hl with | [_, _], _ => rfl⟩, T.glo "_law_pot" 30, T.keep "_law_pot" 54⟩
def kk_law_take : RT → (PyData → List PyData → Prop) := fun R v c => R (.dat v) [.cel true c]
def S_law_take : DSp := fun as Q => match as with
  | [.cel true x0, .dat x1] => q_law_take x0 x1 (kk_law_take Q)
  | _ => False
theorem len_law_take (as : List SD) (Q : SD → List SD → Prop) (h : S_law_take as Q) : as.length = 2 := by
  unfold S_law_take at h
  split at h
  · rfl
  · exact h.elim
theorem cels_law_take : CelsIn 1 S_law_take := by
  intro as Q h i p xs e
  unfold S_law_take at h
  split at h
  · exact cels1 (ds := [_]) e
  · exact h.elim
def N_law_take : List Str := ["_law_pot_here", "_law_many", "_law_found"]
theorem sc_law_take : FnScope N_law_take ["_law_pot_here", "_law_many"] (defScope (top 27)) := ⟨rfl, rfl, rfl, by decide +kernel, rfl, by decide +kernel, by decide +kernel⟩
theorem fg_law_take (T : Tp K mg)  {fd : FuncData} (Fn : Fun K "_law_take" "_law_take" (top 27) (He.ga K "_law_take") fd) : FnG P w K mg base Tb 1 (He.ga K "_law_take") fd ["_law_pot_here", "_law_many"] S_law_take := by
  refine dfn 1 Fn sc_law_take len_law_take cels_law_take fun cdv A outer s H hr hA => ⟨_, (scons (sif (dcmpT op_gt opr_gt (dixC 0 di) di (nomark _)) (scons (sset 2 sc_law_take.nd (dx (dmod (dixC 0 di) (dv 1)))) (scons (ssetC 0 (ddiv (dixC 0 di) (dv 1)) di) (sone (sret (m := 1) (dx (dv 2)))))) snil) (scons (ssetC 0 (dmod (dadd (dmul (dixC 0 di) di) di) di) di) (sone (sret (m := 1) (dx (dmod (ddiv (dmod (dmul (dixC 0 di) (dixC 0 di)) di) di) (dv 1))))))), fun as Q h => ?_⟩
  unfold S_law_take at h
  split at h
  · unfold q_law_take at h
    rename_i x0 x1
    refine at_env (b := [.cel true x0, .dat x1, .un]) rfl ?_
    exact Eq.mp (by kernel_rfl) h
  · exact h.elim
theorem ok_law_take (T : Tp K mg)  : Dn P w K mg base Tb "_law_take" 1 ["_law_pot_here", "_law_many"] S_law_take := by
  obtain ⟨kV, doc, pm, an, cdv, ct, Fn⟩ := T.fun_ "_law_take" (top 27) 15 55
  exact ⟨⟨_, fg_law_take T  Fn, Fn.binds (ps := ["_law_pot_here", "_law_many"]) fun _ _ _ _ _ _ us hl => match us, hl with | [_, _], _ => rfl⟩, T.glo "_law_take" 31, T.keep "_law_take" 55⟩
def kk_law_name : RT → (PyData → List PyData → Prop) := fun R v c => R (.dat v) [.cel true c]
def em_law_name_1 (i : PyData) (s : List PyData) : List SD := [.cel true s, .un, .dat i, .un]
def de_law_name_1 : List SD → Option ((PyData) × (List PyData))
  | [.cel true x0, .un, .dat x2, .un] => some (x2, x0)
  | _ => none
theorem hde_law_name_1 : ∀ env i s, de_law_name_1 env = some (i, s) → env = em_law_name_1 i s := by
  intro env i s h
  unfold de_law_name_1 at h
  split at h
  · cases h; rfl
  · cases h
def S_law_name : DSp := fun as Q => match as with
  | [.cel true x0] => q_law_name x0 (kk_law_name Q)
  | _ => False
theorem len_law_name (as : List SD) (Q : SD → List SD → Prop) (h : S_law_name as Q) : as.length = 1 := by
  unfold S_law_name at h
  split at h
  · rfl
  · exact h.elim
theorem cels_law_name : CelsIn 1 S_law_name := by
  intro as Q h i p xs e
  unfold S_law_name at h
  split at h
  · exact cels1 (ds := []) e
  · exact h.elim
def N_law_name : List Str := ["_law_pot_here", "_law_way", "_law_size", "_law_sign"]
theorem sc_law_name : FnScope N_law_name ["_law_pot_here"] (defScope (top 28)) := ⟨rfl, rfl, rfl, by decide +kernel, rfl, by decide +kernel, by decide +kernel⟩
theorem fg_law_name (T : Tp K mg) (D_law_take : Dn P w K mg base Tb "_law_take" 1 ["_law_pot_here", "_law_many"] S_law_take) {fd : FuncData} (Fn : Fun K "_law_name" "_law_name" (top 28) (He.ga K "_law_name") fd) : FnG P w K mg base Tb 2 (He.ga K "_law_name") fd ["_law_pot_here"] S_law_name := by
  refine dfn 1 Fn sc_law_name len_law_name cels_law_name fun cdv A outer s H hr hA => ⟨_, (scons (sset 1 sc_law_name.nd (dcnC 0 D_law_take (hr.mono (by decide)) hA (acons di anil))) (scons (sif (dcmpT (op_eqE hr.units) opd_eq (dv 1) di (nomark _)) (sone (sret (m := 1) (dx (dixP (dfrz (dlst (acons ds (acons ds (acons ds (acons ds (acons ds (acons ds (acons ds anil))))))))) (dfrz (dcnC 0 D_law_take (hr.mono (by decide)) hA (acons di anil))))))) snil) (scons (sset 2 sc_law_name.nd (dx (dixP (dfrz (dlst (acons di (acons di (acons di anil))))) (dsub (dv 1) di)))) (ssforget [1] (sone (sret (m := 1) (dx (djoin (dfrz (dlc (dec := de_law_name_1) (emb := em_law_name_1) (qb := qb_law_name_1) [("_law_sign", 3)] (.one 3) hde_law_name_1 rfl sc_law_name.nd (irange1 (m_range T) (acons (dv 2) anil)) (blkOk_by (own := [("_law_sign", 3)]) (N := N_law_name) (sc := defScope (top 28)) (by decide +kernel)) (fun _ _ _ _ _ => pg_name (i := 3) sc_law_name.nd rfl (Or.inl rfl)) (fun _ _ _ _ _ => tyes) (fun _ _ _ _ _ => (dixP ds (dfrz (dcnC 0 D_law_take (hr.mono (by decide)) hA (acons di anil))))) (fun d i s sk yd h => Eq.mp (by kernel_rfl) h))))))))))), fun as Q h => ?_⟩
  unfold S_law_name at h
  split at h
  · unfold q_law_name at h
    rename_i x0
    refine at_env (b := [.cel true x0, .un, .un, .un]) rfl ?_
    exact Eq.mp (by kernel_rfl) h
  · exact h.elim
theorem ok_law_name (T : Tp K mg) (D_law_take : Dn P w K mg base Tb "_law_take" 1 ["_law_pot_here", "_law_many"] S_law_take) : Dn P w K mg base Tb "_law_name" 2 ["_law_pot_here"] S_law_name := by
  obtain ⟨kV, doc, pm, an, cdv, ct, Fn⟩ := T.fun_ "_law_name" (top 28) 16 56
  exact ⟨⟨_, fg_law_name T D_law_take Fn, Fn.binds (ps := ["_law_pot_here"]) fun _ _ _ _ _ _ us hl => match us, hl with | [_], _ => rfl⟩, T.glo "_law_name" 32, T.keep "_law_name" 56⟩
def kk_law_names : RT → (PyData → List PyData → Prop) := fun R v c => R (.dat v) [.cel true c]
def em_law_names_1 (i : PyData) (s : List PyData) : List SD := [.cel true s, .dat i, .un]
def de_law_names_1 : List SD → Option ((PyData) × (List PyData))
  | [.cel true x0, .dat x1, .un] => some (x1, x0)
  | _ => none
theorem hde_law_names_1 : ∀ env i s, de_law_names_1 env = some (i, s) → env = em_law_names_1 i s := by
  intro env i s h
  unfold de_law_names_1 at h
  split at h
  · cases h; rfl
  · cases h
def S_law_names : DSp := fun as Q => match as with
  | [.cel true x0, .dat x1] => q_law_names x0 x1 (kk_law_names Q)
  | _ => False
theorem len_law_names (as : List SD) (Q : SD → List SD → Prop) (h : S_law_names as Q) : as.length = 2 := by
  unfold S_law_names at h
  split at h
  · rfl
  · exact h.elim
theorem cels_law_names : CelsIn 1 S_law_names := by
  intro as Q h i p xs e
  unfold S_law_names at h
  split at h
  · exact cels1 (ds := [_]) e
  · exact h.elim
def N_law_names : List Str := ["_law_pot_here", "_law_most", "_law_k"]
theorem sc_law_names : FnScope N_law_names ["_law_pot_here", "_law_most"] (defScope (top 29)) := ⟨rfl, rfl, rfl, by decide +kernel, rfl, by decide +kernel, by decide +kernel⟩
theorem fg_law_names (T : Tp K mg) (D_law_name : Dn P w K mg base Tb "_law_name" 2 ["_law_pot_here"] S_law_name) (D_law_take : Dn P w K mg base Tb "_law_take" 1 ["_law_pot_here", "_law_many"] S_law_take) {fd : FuncData} (Fn : Fun K "_law_names" "_law_names" (top 29) (He.ga K "_law_names") fd) : FnG P w K mg base Tb 3 (He.ga K "_law_names") fd ["_law_pot_here", "_law_most"] S_law_names := by
  refine dfn 1 Fn sc_law_names len_law_names cels_law_names fun cdv A outer s H hr hA => ⟨_, (sone (sret (m := 1) (dx (dfrz (dsortSetT (by rfl) (m_sorted T) (m_set T) (dfrz (dlc (dec := de_law_names_1) (emb := em_law_names_1) (qb := qb_law_names_1) [("_law_k", 2)] (.one 2) hde_law_names_1 rfl sc_law_names.nd (irange1 (m_range T) (acons (dadd di (dfrz (dcnC 0 D_law_take (hr.mono (by decide)) hA (acons (dv 1) anil)))) anil)) (blkOk_by (own := [("_law_k", 2)]) (N := N_law_names) (sc := defScope (top 29)) (by decide +kernel)) (fun _ _ _ _ _ => pg_name (i := 2) sc_law_names.nd rfl (Or.inl rfl)) (fun _ _ _ _ _ => tyes) (fun _ _ _ _ _ => (dfrz (dcnC 0 D_law_name (hr.mono (by decide)) hA anil))) (fun d i s sk yd h => Eq.mp (by kernel_rfl) h)))))))), fun as Q h => ?_⟩
  unfold S_law_names at h
  split at h
  · unfold q_law_names at h
    rename_i x0 x1
    refine at_env (b := [.cel true x0, .dat x1, .un]) rfl ?_
    exact Eq.mp (by kernel_rfl) h
  · exact h.elim
theorem ok_law_names (T : Tp K mg) (D_law_name : Dn P w K mg base Tb "_law_name" 2 ["_law_pot_here"] S_law_name) (D_law_take : Dn P w K mg base Tb "_law_take" 1 ["_law_pot_here", "_law_many"] S_law_take) : Dn P w K mg base Tb "_law_names" 3 ["_law_pot_here", "_law_most"] S_law_names := by
  obtain ⟨kV, doc, pm, an, cdv, ct, Fn⟩ := T.fun_ "_law_names" (top 29) 17 57
  exact ⟨⟨_, fg_law_names T D_law_name D_law_take Fn, Fn.binds (ps := ["_law_pot_here", "_law_most"]) fun _ _ _ _ _ _ us hl => match us, hl with | [_, _], _ => rfl⟩, T.glo "_law_names" 33, T.keep "_law_names" 57⟩
def kk_law_roll : RT → (PyData → List PyData → Prop) := fun R v c => R (.dat v) [.cel true c]
def em_law_roll_1 (i : PyData × PyData × PyData × PyData) (s : List PyData × List PyData × KVD) : List SD := [.cel true s.1, .un, .dat i.1, .dat i.2.1, .dat i.2.2.1, .dat i.2.2.2, .cel false s.2.1, .dic (.tk s.2.2), .un, .un, .un, .un, .un]
def de_law_roll_1 : List SD → Option ((PyData × PyData × PyData × PyData) × (List PyData × List PyData × KVD))
  | [.cel true x0, .un, .dat x2, .dat x3, .dat x4, .dat x5, .cel false x6, .dic (.tk x7), .un, .un, .un, .un, .un] => some ((x2, x3, x4, x5), (x0, x6, x7))
  | _ => none
theorem hde_law_roll_1 : ∀ env i s, de_law_roll_1 env = some (i, s) → env = em_law_roll_1 i s := by
  intro env i s h
  unfold de_law_roll_1 at h
  split at h
  · cases h; rfl
  · cases h
def S_law_roll : DSp := fun as Q => match as with
  | [.cel true x0, .dat x1] => q_law_roll x0 x1 (kk_law_roll Q)
  | _ => False
theorem len_law_roll (as : List SD) (Q : SD → List SD → Prop) (h : S_law_roll as Q) : as.length = 2 := by
  unfold S_law_roll at h
  split at h
  · rfl
  · exact h.elim
theorem cels_law_roll : CelsIn 1 S_law_roll := by
  intro as Q h i p xs e
  unfold S_law_roll at h
  split at h
  · exact cels1 (ds := [_]) e
  · exact h.elim
def N_law_roll : List Str := ["_law_pot_here", "_law_most", "_law_men", "_law_ships", "_law_ranks", "_law_top", "_law_rows", "_law_told", "_law_k", "_law_man", "_law_hour", "_law_ship", "_law_row"]
theorem sc_law_roll : FnScope N_law_roll ["_law_pot_here", "_law_most"] (defScope (top 30)) := ⟨rfl, rfl, rfl, by decide +kernel, rfl, by decide +kernel, by decide +kernel⟩
theorem fg_law_roll (T : Tp K mg) (D_law_names : Dn P w K mg base Tb "_law_names" 3 ["_law_pot_here", "_law_most"] S_law_names) (D_law_take : Dn P w K mg base Tb "_law_take" 1 ["_law_pot_here", "_law_many"] S_law_take) {fd : FuncData} (Fn : Fun K "_law_roll" "_law_roll" (top 30) (He.ga K "_law_roll") fd) : FnG P w K mg base Tb 4 (He.ga K "_law_roll") fd ["_law_pot_here", "_law_most"] S_law_roll := by
  refine dfnW 1 Fn sc_law_roll len_law_roll cels_law_roll fun cdv A outer s H hP hW hr hA => ⟨_, (scons (spar3 2 3 4 rfl sc_law_roll.nd (acons (dfrz (dcnC 0 D_law_names (hr.mono (by decide)) hA (acons di anil))) (acons (dfrz (dcnC 0 D_law_names (hr.mono (by decide)) hA (acons di anil))) (acons (dfrz (dcnC 0 D_law_names (hr.mono (by decide)) hA (acons di anil))) anil)))) (scons (sif (dcmpT (op_eqE hr.units) opd_eq (dfrz (dcnC 0 D_law_take (hr.mono (by decide)) hA (acons di anil))) di (nomark _)) (scons (sset 3 sc_law_roll.nd (dx (dsl (dv 2) so_none (so_some di)))) (sone (sset 4 sc_law_roll.nd (dx (dsl (dv 2) (so_some (dneg di)) so_none))))) snil) (scons (sset 5 sc_law_roll.nd (dx (dixP (dfrz (dlst (acons di (acons di (acons di anil))))) (dfrz (dcnC 0 D_law_take (hr.mono (by decide)) hA (acons di anil)))))) (scons (sset 6 sc_law_roll.nd (dlst anil)) (scons (sdnew 7 sc_law_roll.nd hP hW) (scons (sforQ [1, 8, 9, 10, 11, 12] de_law_roll_1 em_law_roll_1 kk_law_roll qb_law_roll_1 hde_law_roll_1 PassesOwn.never rfl (irange1 (m_range T) (acons (dixP (dfrz (dlst (acons (dfrz (dcnC 0 D_law_take (hr.mono (by decide)) hA (acons di anil))) (acons (dfrz (dcnC 0 D_law_take (hr.mono (by decide)) hA (acons (dadd (dv 1) di) anil))) (acons (dv 1) anil))))) (dfrz (dcnC 0 D_law_take (hr.mono (by decide)) hA (acons di anil)))) anil)) (gn 8 sc_law_roll.nd) (scons (sset 9 sc_law_roll.nd (dx (dixP (dv 2) (dfrz (dcnC 0 D_law_take (hr.mono (by decide)) hA (acons (dlen (m_len T) (acons (dv 2) anil)) anil)))))) (scons (sset 10 sc_law_roll.nd (dx (dixP (dfrz (dlst (acons di (acons (dv 5) (acons (dfrz (dcnC 0 D_law_take (hr.mono (by decide)) hA (acons (dadd (dv 5) di) anil))) (acons (dfrz (dcnC 0 D_law_take (hr.mono (by decide)) hA (acons (dadd (dv 5) di) anil))) anil)))))) (dfrz (dcnC 0 D_law_take (hr.mono (by decide)) hA (acons di anil)))))) (scons (sset 11 sc_law_roll.nd (dx (dixP (dadd (dv 3) (dfrz (dlst (acons ds anil)))) (dfrz (dcnC 0 D_law_take (hr.mono (by decide)) hA (acons (dadd (dlen (m_len T) (acons (dv 3) anil)) di) anil)))))) (scons (sset 12 sc_law_roll.nd (dx (dtup (acons (dv 9) (acons (dv 10) (acons (dv 11) (acons (dixP (dv 4) (dfrz (dcnC 0 D_law_take (hr.mono (by decide)) hA (acons (dlen (m_len T) (acons (dv 4) anil)) anil)))) anil))))))) (ssforget [8, 11] (scons (sif (tand (tempCn 6 hr.units) (tand1 (dcmpT (op_eqE hr.units) opd_eq (dfrz (dcnC 0 D_law_take (hr.mono (by decide)) hA (acons di anil))) di (nomark _)))).pt (sone (sset 12 sc_law_roll.nd (dx (dadd (dtup (acons (dv 9) (acons (dv 10) anil))) (dsl (dixC 6 (dfrz (dcnC 0 D_law_take (hr.mono (by decide)) hA (acons (dlenC 6 (m_len T)) anil)))) (so_some di) so_none))))) snil) (ssforget [9, 10] (sone (sif (tdnin 7 hr hP hW (dsl (dv 12) so_none (so_some di))) (scons (sapp 6 (dv 12)) (sone (sdput 7 hr hP hW db (dsl (dv 12) so_none (so_some di))))) snil))))))))) (fun R d i s nx bk h => Eq.mp (by kernel_rfl) h)) (sone (sret (m := 1) (dx (dtup (acons (dtupC 6 (m_tuple T)) (acons (dv 2) (acons (dv 3) (acons (dv 4) anil)))))))))))))), fun as Q h => ?_⟩
  unfold S_law_roll at h
  split at h
  · unfold q_law_roll at h
    rename_i x0 x1
    refine at_env (b := [.cel true x0, .dat x1, .un, .un, .un, .un, .un, .un, .un, .un, .un, .un, .un]) rfl ?_
    exact Eq.mp (by kernel_rfl) h
  · exact h.elim
theorem ok_law_roll (T : Tp K mg) (D_law_names : Dn P w K mg base Tb "_law_names" 3 ["_law_pot_here", "_law_most"] S_law_names) (D_law_take : Dn P w K mg base Tb "_law_take" 1 ["_law_pot_here", "_law_many"] S_law_take) : Dn P w K mg base Tb "_law_roll" 4 ["_law_pot_here", "_law_most"] S_law_roll := by
  obtain ⟨kV, doc, pm, an, cdv, ct, Fn⟩ := T.fun_ "_law_roll" (top 30) 18 58
  exact ⟨⟨_, fg_law_roll T D_law_names D_law_take Fn, Fn.binds (ps := ["_law_pot_here", "_law_most"]) fun _ _ _ _ _ _ us hl => match us, hl with | [_, _], _ => rfl⟩, T.glo "_law_roll" 34, T.keep "_law_roll" 58⟩
def kk_law_hours : RT → (PyData → List PyData → Prop) := fun R v c => R (.dat v) [.cel true c]
def em_law_hours_1 (i : List PyData) (s : PyData) : List SD := [.cel true i, .un, .dat s, .un]
def de_law_hours_1 : List SD → Option ((List PyData) × (PyData))
  | [.cel true x0, .un, .dat x2, .un] => some (x0, x2)
  | _ => none
theorem hde_law_hours_1 : ∀ env i s, de_law_hours_1 env = some (i, s) → env = em_law_hours_1 i s := by
  intro env i s h
  unfold de_law_hours_1 at h
  split at h
  · cases h; rfl
  · cases h
def S_law_hours : DSp := fun as Q => match as with
  | [.cel true x0, .dat x1] => q_law_hours x0 x1 (kk_law_hours Q)
  | _ => False
theorem len_law_hours (as : List SD) (Q : SD → List SD → Prop) (h : S_law_hours as Q) : as.length = 2 := by
  unfold S_law_hours at h
  split at h
  · rfl
  · exact h.elim
theorem cels_law_hours : CelsIn 1 S_law_hours := by
  intro as Q h i p xs e
  unfold S_law_hours at h
  split at h
  · exact cels1 (ds := [_]) e
  · exact h.elim
def N_law_hours : List Str := ["_law_pot_here", "_law_roll_here", "_law_found", "_law_row"]
theorem sc_law_hours : FnScope N_law_hours ["_law_pot_here", "_law_roll_here"] (defScope (top 31)) := ⟨rfl, rfl, rfl, by decide +kernel, rfl, by decide +kernel, by decide +kernel⟩
theorem fg_law_hours (T : Tp K mg) (D_law_take : Dn P w K mg base Tb "_law_take" 1 ["_law_pot_here", "_law_many"] S_law_take) {fd : FuncData} (Fn : Fun K "_law_hours" "_law_hours" (top 31) (He.ga K "_law_hours") fd) : FnG P w K mg base Tb 2 (He.ga K "_law_hours") fd ["_law_pot_here", "_law_roll_here"] S_law_hours := by
  refine dfn 1 Fn sc_law_hours len_law_hours cels_law_hours fun cdv A outer s H hr hA => ⟨_, (scons (sset 2 sc_law_hours.nd (dx (dfrz (dlst (acons di (acons (dpow di di) (acons (dfrz (dcnC 0 D_law_take (hr.mono (by decide)) hA (acons (dadd (dpow di di) di) anil))) (acons (dfrz (dcnC 0 D_law_take (hr.mono (by decide)) hA (acons di anil))) anil)))))))) (scons (sforQ [1, 3] de_law_hours_1 em_law_hours_1 kk_law_hours qb_law_hours_1 hde_law_hours_1 PassesOwn.never rfl (iseq (dv 1)) (gn 3 sc_law_hours.nd) (sone (sset 2 sc_law_hours.nd (dx (dadd (dv 2) (dfrz (dlst (acons (dmax2 (m_max T) rfl (acons di (acons (dsub (dixP (dv 3) di) di) anil))) (acons (dixP (dv 3) di) (acons (dmin2 (m_min T) rfl (acons (dpow di di) (acons (dadd (dixP (dv 3) di) di) anil))) anil))))))))) (fun R d i s nx bk h => Eq.mp (by kernel_rfl) h)) (sone (sret (m := 1) (dx (dfrz (dsortSetM hr (by rfl) (m_sorted T) (m_set T) (dv 2)))))))), fun as Q h => ?_⟩
  unfold S_law_hours at h
  split at h
  · unfold q_law_hours at h
    rename_i x0 x1
    refine at_env (b := [.cel true x0, .dat x1, .un, .un]) rfl ?_
    exact Eq.mp (by kernel_rfl) h
  · exact h.elim
theorem ok_law_hours (T : Tp K mg) (D_law_take : Dn P w K mg base Tb "_law_take" 1 ["_law_pot_here", "_law_many"] S_law_take) : Dn P w K mg base Tb "_law_hours" 2 ["_law_pot_here", "_law_roll_here"] S_law_hours := by
  obtain ⟨kV, doc, pm, an, cdv, ct, Fn⟩ := T.fun_ "_law_hours" (top 31) 19 59
  exact ⟨⟨_, fg_law_hours T D_law_take Fn, Fn.binds (ps := ["_law_pot_here", "_law_roll_here"]) fun _ _ _ _ _ _ us hl => match us, hl with | [_, _], _ => rfl⟩, T.glo "_law_hours" 35, T.keep "_law_hours" 59⟩
def kk_law_one_right : RT → (PyData → Prop) := fun R v => R (.dat v) []
def em_law_one_right_1 (i : PyData × PyData × PyData × PyData) (s : List PyData) : List SD := [.dat i.1, .un, .dat i.2.1, .dat i.2.2.1, .dat i.2.2.2, .cel false s, .un, .un, .un, .un]
def de_law_one_right_1 : List SD → Option ((PyData × PyData × PyData × PyData) × (List PyData))
  | [.dat x0, .un, .dat x2, .dat x3, .dat x4, .cel false x5, .un, .un, .un, .un] => some ((x0, x2, x3, x4), x5)
  | _ => none
theorem hde_law_one_right_1 : ∀ env i s, de_law_one_right_1 env = some (i, s) → env = em_law_one_right_1 i s := by
  intro env i s h
  unfold de_law_one_right_1 at h
  split at h
  · cases h; rfl
  · cases h
def em_law_one_right_2 (i : PyData × PyData × PyData × PyData × List PyData × PyData) (s : Unit) : List SD := [.dat i.1, .un, .dat i.2.1, .dat i.2.2.1, .dat i.2.2.2.1, .cel false i.2.2.2.2.1, .dat i.2.2.2.2.2, .un, .un, .un]
def de_law_one_right_2 : List SD → Option ((PyData × PyData × PyData × PyData × List PyData × PyData) × (Unit))
  | [.dat x0, .un, .dat x2, .dat x3, .dat x4, .cel false x5, .dat x6, .un, .un, .un] => some ((x0, x2, x3, x4, x5, x6), ())
  | _ => none
theorem hde_law_one_right_2 : ∀ env i s, de_law_one_right_2 env = some (i, s) → env = em_law_one_right_2 i s := by
  intro env i s h
  unfold de_law_one_right_2 at h
  split at h
  · cases h; rfl
  · cases h
def em_law_one_right_3 (i : PyData × PyData × PyData × PyData) (s : Unit) : List SD := [.dat i.1, .un, .dat i.2.1, .dat i.2.2.1, .dat i.2.2.2, .un, .un, .un, .un, .un]
def de_law_one_right_3 : List SD → Option ((PyData × PyData × PyData × PyData) × (Unit))
  | [.dat x0, .un, .dat x2, .dat x3, .dat x4, .un, .un, .un, .un, .un] => some ((x0, x2, x3, x4), ())
  | _ => none
theorem hde_law_one_right_3 : ∀ env i s, de_law_one_right_3 env = some (i, s) → env = em_law_one_right_3 i s := by
  intro env i s h
  unfold de_law_one_right_3 at h
  split at h
  · cases h; rfl
  · cases h
def em_law_one_right_4 (i : PyData × PyData × PyData) (s : Unit) : List SD := [.un, .un, .un, .dat i.1, .dat i.2.1, .un, .un, .dat i.2.2, .un, .un]
def de_law_one_right_4 : List SD → Option ((PyData × PyData × PyData) × (Unit))
  | [.un, .un, .un, .dat x3, .dat x4, .un, .un, .dat x7, .un, .un] => some ((x3, x4, x7), ())
  | _ => none
theorem hde_law_one_right_4 : ∀ env i s, de_law_one_right_4 env = some (i, s) → env = em_law_one_right_4 i s := by
  intro env i s h
  unfold de_law_one_right_4 at h
  split at h
  · cases h; rfl
  · cases h
def S_law_one_right : DSp := fun as Q => match as with
  | [.dat x0, .dat x1, .dat x2, .dat x3] => q_law_one_right x0 x1 x2 x3 (kk_law_one_right Q)
  | _ => False
theorem len_law_one_right (as : List SD) (Q : SD → List SD → Prop) (h : S_law_one_right as Q) : as.length = 4 := by
  unfold S_law_one_right at h
  split at h
  · rfl
  · exact h.elim
theorem cels_law_one_right : CelsIn 0 S_law_one_right := by
  intro as Q h i p xs e
  unfold S_law_one_right at h
  split at h
  · exact absurd e (no_cel (ds := [_, _, _, _]) i p xs)
  · exact h.elim
def N_law_one_right : List Str := ["_law_roll_here", "_law_ships", "_law_man", "_law_hour", "_law_there", "_law_found", "_law_ship", "_law_stays", "_law_one", "_law_stay"]
theorem sc_law_one_right : FnScope N_law_one_right ["_law_roll_here", "_law_ships", "_law_man", "_law_hour"] (defScope (top 32)) := ⟨rfl, rfl, rfl, by decide +kernel, rfl, by decide +kernel, by decide +kernel⟩
theorem fg_law_one_right (T : Tp K mg) (D_crew_at : Dn P w K mg base Tb "crew_at" 6 ["roll", "ship", "hour"] S_crew_at) (D_stays_of : Dn P w K mg base Tb "stays_of" 6 ["roll", "man"] S_stays_of) (D_where_at : Dn P w K mg base Tb "where_at" 6 ["roll", "man", "hour"] S_where_at) {fd : FuncData} (Fn : Fun K "_law_one_right" "_law_one_right" (top 32) (He.ga K "_law_one_right") fd) : FnG P w K mg base Tb 7 (He.ga K "_law_one_right") fd ["_law_roll_here", "_law_ships", "_law_man", "_law_hour"] S_law_one_right := by
  refine dfn 0 Fn sc_law_one_right len_law_one_right cels_law_one_right fun cdv A outer s H hr hA => ⟨_, (scons (sset 4 sc_law_one_right.nd (dcn D_where_at (hr.mono (by decide)) hA (acons (dv 0) (acons (dv 2) (acons (dv 3) anil))))) (scons (sset 5 sc_law_one_right.nd (dlst anil)) (scons (sforQ [1, 6] de_law_one_right_1 em_law_one_right_1 kk_law_one_right qb_law_one_right_1 hde_law_one_right_1 PassesOwn.never rfl (iseq (dv 1)) (gn 6 sc_law_one_right.nd) (sone (sext 5 (dlc (dec := de_law_one_right_2) (emb := em_law_one_right_2) (qb := qb_law_one_right_2) [("_law_one", 8)] (.one 8) hde_law_one_right_2 rfl sc_law_one_right.nd (iseq (dfrz (dcn D_crew_at (hr.mono (by decide)) hA (acons (dv 0) (acons (dv 6) (acons (dv 3) anil)))))) (blkOk_by (own := [("_law_one", 8)]) (N := N_law_one_right) (sc := defScope (top 32)) (by decide +kernel)) (fun _ _ _ _ _ => pg_name (i := 8) sc_law_one_right.nd rfl (Or.inl rfl)) (fun _ _ _ _ _ => tif1 (dcmpT (op_eqE hr.units) opd_eq (dixP (dv 8) di) (dv 2) (nomark _))) (fun _ _ _ _ _ => (dtup (acons (dv 6) (acons (dv 8) anil)))) (fun d i s sk yd h => Eq.mp (by kernel_rfl) h)))) (fun R d i s nx bk h => Eq.mp (by kernel_rfl) h)) (ssfreeze2 5 (scons (sif (tor (tisN (dv 4)) (tor1 (dcmpT (op_eqE hr.units) opd_eq (dixP (dv 4) di) ds (nomark _)))).pt (sone (sif (dcmpT (op_empN hr.units) opd_emp (dv 5) (dfrz (dlst anil)) (nomark _)) (sone (sret (m := 0) (dx db))) snil)) (sone (sif (dcmpT (op_neE hr.units) opd_ne (dv 5) (dfrz (dlst (acons (dtup (acons (dixP (dv 4) di) (acons (dtup (acons (dv 2) (acons (dixP (dv 4) di) (acons (dixP (dv 4) di) anil)))) anil))) anil))) (nomark _)) (sone (sret (m := 0) (dx db))) snil))) (ssforget [5] (scons (ssetLc (dec := de_law_one_right_3) (emb := em_law_one_right_3) (qb := qb_law_one_right_3) 7 [("_law_stay", 9)] (.one 9) hde_law_one_right_3 rfl sc_law_one_right.nd (iseq (dfrz (dcn D_stays_of (hr.mono (by decide)) hA (acons (dv 0) (acons (dv 2) anil))))) (blkOk_by (own := [("_law_stay", 9)]) (N := N_law_one_right) (sc := defScope (top 32)) (by decide +kernel)) (fun _ _ _ _ _ => pg_name (i := 9) sc_law_one_right.nd rfl (Or.inl rfl)) (fun _ _ _ _ _ => tif1 (tand (dcmpT op_le opr_le (dixP (dv 9) di) (dv 3) (nomark _)) (tand1 (tor (tisN (dixP (dv 9) di)) (tor1 (dcmpT op_ltA opr_ltA (dv 3) (dixP (dv 9) di) (nomark _)))).pt)).pt) (fun _ _ _ _ _ => (dv 9)) (fun d i s sk yd h => Eq.mp (by kernel_rfl) h) (sw_true rfl rfl rfl (by decide +kernel))) (ssforget [0, 2] (scons (sif (tisN (dv 4)) (sone (sret (m := 0) (dx (dempC 7 hr.units)))) snil) (ssfreeze2 7 (sone (sret (m := 0) (dx (dandV (dcmp (op_eqE hr.units) opd_eq (dfrz (dlc (dec := de_law_one_right_4) (emb := em_law_one_right_4) (qb := qb_law_one_right_4) [("_law_stay", 9)] (.one 9) hde_law_one_right_4 rfl sc_law_one_right.nd (iseq (dv 7)) (blkOk_by (own := [("_law_stay", 9)]) (N := N_law_one_right) (sc := defScope (top 32)) (by decide +kernel)) (fun _ _ _ _ _ => pg_name (i := 9) sc_law_one_right.nd rfl (Or.inl rfl)) (fun _ _ _ _ _ => tyes) (fun _ _ _ _ _ => (dsl (dv 9) (so_some di) so_none)) (fun d i s sk yd h => Eq.mp (by kernel_rfl) h))) (dfrz (dlst (acons (dsl (dv 4) so_none (so_some di)) anil))) (nomark _)) (done (dcmp op_le opr_le (dixP (dv 4) di) (dv 3) (nomark _))))))))))))))))), fun as Q h => ?_⟩
  unfold S_law_one_right at h
  split at h
  · unfold q_law_one_right at h
    rename_i x0 x1 x2 x3
    refine at_env (b := [.dat x0, .dat x1, .dat x2, .dat x3, .un, .un, .un, .un, .un, .un]) rfl ?_
    exact Eq.mp (by kernel_rfl) h
  · exact h.elim
theorem ok_law_one_right (T : Tp K mg) (D_crew_at : Dn P w K mg base Tb "crew_at" 6 ["roll", "ship", "hour"] S_crew_at) (D_stays_of : Dn P w K mg base Tb "stays_of" 6 ["roll", "man"] S_stays_of) (D_where_at : Dn P w K mg base Tb "where_at" 6 ["roll", "man", "hour"] S_where_at) : Dn P w K mg base Tb "_law_one_right" 7 ["_law_roll_here", "_law_ships", "_law_man", "_law_hour"] S_law_one_right := by
  obtain ⟨kV, doc, pm, an, cdv, ct, Fn⟩ := T.fun_ "_law_one_right" (top 32) 20 60
  exact ⟨⟨_, fg_law_one_right T D_crew_at D_stays_of D_where_at Fn, Fn.binds (ps := ["_law_roll_here", "_law_ships", "_law_man", "_law_hour"]) fun _ _ _ _ _ _ us hl => match us, hl with | [_, _, _, _], _ => rfl⟩, T.glo "_law_one_right" 36, T.keep "_law_one_right" 60⟩
def kk_law_row_more : RT → (PyData → List PyData → Prop) := fun R v c => R (.dat v) [.cel true c]
def em_law_row_more_1 (i : List PyData × PyData × PyData × PyData × PyData × PyData × PyData × PyData × PyData × PyData) (s : Unit) : List SD := [.cel true i.1, .dat i.2.1, .dat i.2.2.1, .dat i.2.2.2.1, .dat i.2.2.2.2.1, .dat i.2.2.2.2.2.1, .dat i.2.2.2.2.2.2.1, .dat i.2.2.2.2.2.2.2.1, .dat i.2.2.2.2.2.2.2.2.1, .dat i.2.2.2.2.2.2.2.2.2, .un, .un, .un, .un, .un, .un]
def de_law_row_more_1 : List SD → Option ((List PyData × PyData × PyData × PyData × PyData × PyData × PyData × PyData × PyData × PyData) × (Unit))
  | [.cel true x0, .dat x1, .dat x2, .dat x3, .dat x4, .dat x5, .dat x6, .dat x7, .dat x8, .dat x9, .un, .un, .un, .un, .un, .un] => some ((x0, x1, x2, x3, x4, x5, x6, x7, x8, x9), ())
  | _ => none
theorem hde_law_row_more_1 : ∀ env i s, de_law_row_more_1 env = some (i, s) → env = em_law_row_more_1 i s := by
  intro env i s h
  unfold de_law_row_more_1 at h
  split at h
  · cases h; rfl
  · cases h
def em_law_row_more_2 (i : List PyData × PyData × PyData × PyData × PyData × PyData × PyData × PyData) (s : Unit) : List SD := [.cel true i.1, .dat i.2.1, .un, .dat i.2.2.1, .un, .un, .dat i.2.2.2.1, .dat i.2.2.2.2.1, .un, .dat i.2.2.2.2.2.1, .dat i.2.2.2.2.2.2.1, .un, .dat i.2.2.2.2.2.2.2, .un, .un, .un]
def de_law_row_more_2 : List SD → Option ((List PyData × PyData × PyData × PyData × PyData × PyData × PyData × PyData) × (Unit))
  | [.cel true x0, .dat x1, .un, .dat x3, .un, .un, .dat x6, .dat x7, .un, .dat x9, .dat x10, .un, .dat x12, .un, .un, .un] => some ((x0, x1, x3, x6, x7, x9, x10, x12), ())
  | _ => none
theorem hde_law_row_more_2 : ∀ env i s, de_law_row_more_2 env = some (i, s) → env = em_law_row_more_2 i s := by
  intro env i s h
  unfold de_law_row_more_2 at h
  split at h
  · cases h; rfl
  · cases h
def em_law_row_more_3 (i : List PyData × PyData × PyData × PyData × PyData × PyData × PyData × PyData × PyData) (s : Unit) : List SD := [.cel true i.1, .dat i.2.1, .un, .dat i.2.2.1, .un, .un, .dat i.2.2.2.1, .dat i.2.2.2.2.1, .un, .dat i.2.2.2.2.2.1, .dat i.2.2.2.2.2.2.1, .un, .dat i.2.2.2.2.2.2.2.1, .dat i.2.2.2.2.2.2.2.2, .un, .un]
def de_law_row_more_3 : List SD → Option ((List PyData × PyData × PyData × PyData × PyData × PyData × PyData × PyData × PyData) × (Unit))
  | [.cel true x0, .dat x1, .un, .dat x3, .un, .un, .dat x6, .dat x7, .un, .dat x9, .dat x10, .un, .dat x12, .dat x13, .un, .un] => some ((x0, x1, x3, x6, x7, x9, x10, x12, x13), ())
  | _ => none
theorem hde_law_row_more_3 : ∀ env i s, de_law_row_more_3 env = some (i, s) → env = em_law_row_more_3 i s := by
  intro env i s h
  unfold de_law_row_more_3 at h
  split at h
  · cases h; rfl
  · cases h
def S_law_row_more : DSp := fun as Q => match as with
  | [.cel true x0, .dat x1, .dat x2, .dat x3, .dat x4, .dat x5] => q_law_row_more x0 x1 x2 x3 x4 x5 (kk_law_row_more Q)
  | _ => False
theorem len_law_row_more (as : List SD) (Q : SD → List SD → Prop) (h : S_law_row_more as Q) : as.length = 6 := by
  unfold S_law_row_more at h
  split at h
  · rfl
  · exact h.elim
theorem cels_law_row_more : CelsIn 1 S_law_row_more := by
  intro as Q h i p xs e
  unfold S_law_row_more at h
  split at h
  · exact cels1 (ds := [_, _, _, _, _]) e
  · exact h.elim
def N_law_row_more : List Str := ["_law_pot_here", "_law_roll_here", "_law_men", "_law_hours_here", "_law_ships", "_law_ranks", "_law_man", "_law_hour", "_law_there", "_law_again", "_law_place", "_law_at", "_law_other", "_law_one", "_law_here", "_law_row"]
theorem sc_law_row_more : FnScope N_law_row_more ["_law_pot_here", "_law_roll_here", "_law_men", "_law_hours_here", "_law_ships", "_law_ranks"] (defScope (top 33)) := ⟨rfl, rfl, rfl, by decide +kernel, rfl, by decide +kernel, by decide +kernel⟩
theorem fg_law_row_more (T : Tp K mg) (D_law_take : Dn P w K mg base Tb "_law_take" 1 ["_law_pot_here", "_law_many"] S_law_take) (D_stays_of : Dn P w K mg base Tb "stays_of" 6 ["roll", "man"] S_stays_of) (D_where_at : Dn P w K mg base Tb "where_at" 6 ["roll", "man", "hour"] S_where_at) {fd : FuncData} (Fn : Fun K "_law_row_more" "_law_row_more" (top 33) (He.ga K "_law_row_more") fd) : FnG P w K mg base Tb 7 (He.ga K "_law_row_more") fd ["_law_pot_here", "_law_roll_here", "_law_men", "_law_hours_here", "_law_ships", "_law_ranks"] S_law_row_more := by
  refine dfn 1 Fn sc_law_row_more len_law_row_more cels_law_row_more fun cdv A outer s H hr hA => ⟨_, (scons (sset 6 sc_law_row_more.nd (dx (dixP (dv 2) (dfrz (dcnC 0 D_law_take (hr.mono (by decide)) hA (acons (dlen (m_len T) (acons (dv 2) anil)) anil)))))) (scons (sset 7 sc_law_row_more.nd (dx (dixP (dv 3) (dfrz (dcnC 0 D_law_take (hr.mono (by decide)) hA (acons (dlen (m_len T) (acons (dv 3) anil)) anil)))))) (scons (sset 8 sc_law_row_more.nd (dcn D_where_at (hr.mono (by decide)) hA (acons (dv 1) (acons (dv 6) (acons (dv 7) anil))))) (scons (sset 9 sc_law_row_more.nd (dx (dcmp (op_eqE hr.units) opd_eq (dfrz (dcnC 0 D_law_take (hr.mono (by decide)) hA (acons di anil))) di (nomark _)))) (scons (sif (tor (dcmpT (op_empN hr.units) opd_emp (dfrz (dlc (dec := de_law_row_more_1) (emb := em_law_row_more_1) (qb := qb_law_row_more_1) [("_law_row", 15)] (.one 15) hde_law_row_more_1 rfl sc_law_row_more.nd (iseq (dv 1)) (blkOk_by (own := [("_law_row", 15)]) (N := N_law_row_more) (sc := defScope (top 33)) (by decide +kernel)) (fun _ _ _ _ _ => pg_name (i := 15) sc_law_row_more.nd rfl (Or.inl rfl)) (fun _ _ _ _ _ => tif1 (dcmpT (op_eqE hr.units) opd_eq (dsl (dv 15) so_none (so_some di)) (dtup (acons (dv 6) (acons (dv 7) anil))) (nomark _))) (fun _ _ _ _ _ => (dv 15)) (fun d i s sk yd h => Eq.mp (by kernel_rfl) h))) (dfrz (dlst anil)) (nomark _)) (tor1 (tand (tisN (dv 8)) (tand1 (dtest (dv 9)))).pt)).pt (sone (sret (m := 1) (dx db))) snil) (scons (sset 10 sc_law_row_more.nd (dx (dtup (acons (dixP (dv 4) (dfrz (dcnC 0 D_law_take (hr.mono (by decide)) hA (acons (dlen (m_len T) (acons (dv 4) anil)) anil)))) (acons (dixP (dv 5) (dfrz (dcnC 0 D_law_take (hr.mono (by decide)) hA (acons (dlen (m_len T) (acons (dv 5) anil)) anil)))) anil))))) (ssforget [4, 5] (scons (sif (dtest (dv 9)) (sone (sset 10 sc_law_row_more.nd (dx (dsl (dv 8) so_none (so_some di))))) snil) (scons (sset 11 sc_law_row_more.nd (dcnC 0 D_law_take (hr.mono (by decide)) hA (acons (dadd (dlen (m_len T) (acons (dv 1) anil)) di) anil))) (scons (sset 12 sc_law_row_more.nd (dx (dadd (dadd (dsl (dv 1) so_none (so_some (dv 11))) (dtup (acons (dadd (dtup (acons (dv 6) (acons (dv 7) anil))) (dv 10)) anil))) (dsl (dv 1) (so_some (dv 11)) so_none)))) (ssforget [8, 11] (scons (sif (tand (dtest (dv 9)) (tand1 (dcmpT (op_neE hr.units) opd_ne (dfrz (dcn D_stays_of (hr.mono (by decide)) hA (acons (dv 12) (acons (dv 6) anil)))) (dfrz (dcn D_stays_of (hr.mono (by decide)) hA (acons (dv 1) (acons (dv 6) anil)))) (nomark _)))).pt (sone (sret (m := 1) (dx db))) snil) (scons (sforQ [2, 13, 14] de_law_row_more_2 em_law_row_more_2 kk_law_row_more qb_law_row_more_2 hde_law_row_more_2 PassesOwn.never rfl (iseq (dv 2)) (gn 13 sc_law_row_more.nd) (sone (sforQ [14] de_law_row_more_3 em_law_row_more_3 kk_law_row_more qb_law_row_more_3 hde_law_row_more_3 PassesOwn.never rfl (iseq (dv 3)) (gn 14 sc_law_row_more.nd) (sone (sif (tor (dcmpT (op_neE hr.units) opd_ne (dv 13) (dv 6) (nomark _)) (tor (dcmpT op_ltA opr_ltA (dv 14) (dv 7) (nomark _)) (tor1 (dtest (dv 9))))).pt (sone (sif (dcmpT (op_neE hr.units) opd_ne (dfrz (dcn D_where_at (hr.mono (by decide)) hA (acons (dv 12) (acons (dv 13) (acons (dv 14) anil))))) (dfrz (dcn D_where_at (hr.mono (by decide)) hA (acons (dv 1) (acons (dv 13) (acons (dv 14) anil))))) (nomark _)) (sone (sret (m := 1) (dx db))) snil)) snil)) (fun R d i s nx bk h => Eq.mp (by kernel_rfl) h))) (fun R d i s nx bk h => Eq.mp (by kernel_rfl) h)) (sone (sret (m := 1) (dx (dcmp (op_eqE hr.units) opd_eq (dsl (dfrz (dcn D_where_at (hr.mono (by decide)) hA (acons (dv 12) (acons (dv 6) (acons (dv 7) anil))))) so_none (so_some di)) (dv 10) (nomark _)))))))))))))))))), fun as Q h => ?_⟩
  unfold S_law_row_more at h
  split at h
  · unfold q_law_row_more at h
    rename_i x0 x1 x2 x3 x4 x5
    refine at_env (b := [.cel true x0, .dat x1, .dat x2, .dat x3, .dat x4, .dat x5, .un, .un, .un, .un, .un, .un, .un, .un, .un, .un]) rfl ?_
    exact Eq.mp (by kernel_rfl) h
  · exact h.elim
theorem ok_law_row_more (T : Tp K mg) (D_law_take : Dn P w K mg base Tb "_law_take" 1 ["_law_pot_here", "_law_many"] S_law_take) (D_stays_of : Dn P w K mg base Tb "stays_of" 6 ["roll", "man"] S_stays_of) (D_where_at : Dn P w K mg base Tb "where_at" 6 ["roll", "man", "hour"] S_where_at) : Dn P w K mg base Tb "_law_row_more" 7 ["_law_pot_here", "_law_roll_here", "_law_men", "_law_hours_here", "_law_ships", "_law_ranks"] S_law_row_more := by
  obtain ⟨kV, doc, pm, an, cdv, ct, Fn⟩ := T.fun_ "_law_row_more" (top 33) 21 61
  exact ⟨⟨_, fg_law_row_more T D_law_take D_stays_of D_where_at Fn, Fn.binds (ps := ["_law_pot_here", "_law_roll_here", "_law_men", "_law_hours_here", "_law_ships", "_law_ranks"]) fun _ _ _ _ _ _ us hl => match us, hl with | [_, _, _, _, _, _], _ => rfl⟩, T.glo "_law_row_more" 37, T.keep "_law_row_more" 61⟩
def kk_law_called : RT → (PyData → Prop) := fun R v => R (.dat v) []
def em_law_called_1 (i : PyData × PyData × PyData) (s : Unit) : List SD := [.dat i.1, .dat i.2.1, .dat i.2.2, .un]
def de_law_called_1 : List SD → Option ((PyData × PyData × PyData) × (Unit))
  | [.dat x0, .dat x1, .dat x2, .un] => some ((x0, x1, x2), ())
  | _ => none
theorem hde_law_called_1 : ∀ env i s, de_law_called_1 env = some (i, s) → env = em_law_called_1 i s := by
  intro env i s h
  unfold de_law_called_1 at h
  split at h
  · cases h; rfl
  · cases h
def S_law_called : DSp := fun as Q => match as with
  | [.dat x0, .dat x1, .dat x2] => q_law_called x0 x1 x2 (kk_law_called Q)
  | _ => False
theorem len_law_called (as : List SD) (Q : SD → List SD → Prop) (h : S_law_called as Q) : as.length = 3 := by
  unfold S_law_called at h
  split at h
  · rfl
  · exact h.elim
theorem cels_law_called : CelsIn 0 S_law_called := by
  intro as Q h i p xs e
  unfold S_law_called at h
  split at h
  · exact absurd e (no_cel (ds := [_, _, _]) i p xs)
  · exact h.elim
def N_law_called : List Str := ["_law_roll_here", "_law_men", "_law_names_here", "_law_row"]
theorem sc_law_called : FnScope N_law_called ["_law_roll_here", "_law_men", "_law_names_here"] (defScope (top 34)) := ⟨rfl, rfl, rfl, by decide +kernel, rfl, by decide +kernel, by decide +kernel⟩
theorem fg_law_called (T : Tp K mg)  {fd : FuncData} (Fn : Fun K "_law_called" "_law_called" (top 34) (He.ga K "_law_called") fd) : FnG P w K mg base Tb 1 (He.ga K "_law_called") fd ["_law_roll_here", "_law_men", "_law_names_here"] S_law_called := by
  refine dfn 0 Fn sc_law_called len_law_called cels_law_called fun cdv A outer s H hr hA => ⟨_, (sone (sret (m := 0) (dx (dtupleOf (m_tuple T) (acons (dfrz (dlc (dec := de_law_called_1) (emb := em_law_called_1) (qb := qb_law_called_1) [("_law_row", 3)] (.one 3) hde_law_called_1 rfl sc_law_called.nd (iseq (dv 0)) (blkOk_by (own := [("_law_row", 3)]) (N := N_law_called) (sc := defScope (top 34)) (by decide +kernel)) (fun _ _ _ _ _ => pg_name (i := 3) sc_law_called.nd rfl (Or.inl rfl)) (fun _ _ _ _ _ => tyes) (fun _ _ _ _ _ => (dadd (dtup (acons (dixP (dv 2) (dlix hr.u65 (dv 1) (dixP (dv 3) di))) anil)) (dsl (dv 3) (so_some di) so_none))) (fun d i s sk yd h => Eq.mp (by kernel_rfl) h))) anil))))), fun as Q h => ?_⟩
  unfold S_law_called at h
  split at h
  · unfold q_law_called at h
    rename_i x0 x1 x2
    refine at_env (b := [.dat x0, .dat x1, .dat x2, .un]) rfl ?_
    exact Eq.mp (by kernel_rfl) h
  · exact h.elim
theorem ok_law_called (T : Tp K mg)  : Dn P w K mg base Tb "_law_called" 1 ["_law_roll_here", "_law_men", "_law_names_here"] S_law_called := by
  obtain ⟨kV, doc, pm, an, cdv, ct, Fn⟩ := T.fun_ "_law_called" (top 34) 22 62
  exact ⟨⟨_, fg_law_called T  Fn, Fn.binds (ps := ["_law_roll_here", "_law_men", "_law_names_here"]) fun _ _ _ _ _ _ us hl => match us, hl with | [_, _, _], _ => rfl⟩, T.glo "_law_called" 38, T.keep "_law_called" 62⟩
def kk_law : RT → (PyData → Prop) := fun R v => R (.dat v) []
def em_law_1 (i : PyData) (s : Unit) : List SD := [.dat i, .un, .un, .un, .un, .un, .un, .un, .un, .un, .un, .un, .un, .un, .un, .un, .un]
def de_law_1 : List SD → Option ((PyData) × (Unit))
  | [.dat x0, .un, .un, .un, .un, .un, .un, .un, .un, .un, .un, .un, .un, .un, .un, .un, .un] => some (x0, ())
  | _ => none
theorem hde_law_1 : ∀ env i s, de_law_1 env = some (i, s) → env = em_law_1 i s := by
  intro env i s h
  unfold de_law_1 at h
  split at h
  · cases h; rfl
  · cases h
def em_law_2 (i : PyData × List PyData × PyData × PyData × PyData × PyData × PyData) (s : Unit) : List SD := [.dat i.1, .un, .cel false i.2.1, .dat i.2.2.1, .dat i.2.2.2.1, .dat i.2.2.2.2.1, .dat i.2.2.2.2.2.1, .un, .dat i.2.2.2.2.2.2, .un, .un, .un, .un, .un, .un, .un, .un]
def de_law_2 : List SD → Option ((PyData × List PyData × PyData × PyData × PyData × PyData × PyData) × (Unit))
  | [.dat x0, .un, .cel false x2, .dat x3, .dat x4, .dat x5, .dat x6, .un, .dat x8, .un, .un, .un, .un, .un, .un, .un, .un] => some ((x0, x2, x3, x4, x5, x6, x8), ())
  | _ => none
theorem hde_law_2 : ∀ env i s, de_law_2 env = some (i, s) → env = em_law_2 i s := by
  intro env i s h
  unfold de_law_2 at h
  split at h
  · cases h; rfl
  · cases h
def em_law_3 (i : PyData × List PyData × PyData × PyData × PyData × PyData × PyData × PyData) (s : Unit) : List SD := [.dat i.1, .un, .cel false i.2.1, .dat i.2.2.1, .dat i.2.2.2.1, .dat i.2.2.2.2.1, .dat i.2.2.2.2.2.1, .un, .dat i.2.2.2.2.2.2.1, .dat i.2.2.2.2.2.2.2, .un, .un, .un, .un, .un, .un, .un]
def de_law_3 : List SD → Option ((PyData × List PyData × PyData × PyData × PyData × PyData × PyData × PyData) × (Unit))
  | [.dat x0, .un, .cel false x2, .dat x3, .dat x4, .dat x5, .dat x6, .un, .dat x8, .dat x9, .un, .un, .un, .un, .un, .un, .un] => some ((x0, x2, x3, x4, x5, x6, x8, x9), ())
  | _ => none
theorem hde_law_3 : ∀ env i s, de_law_3 env = some (i, s) → env = em_law_3 i s := by
  intro env i s h
  unfold de_law_3 at h
  split at h
  · cases h; rfl
  · cases h
def em_law_4 (i : PyData × PyData × PyData × PyData × PyData) (s : Unit) : List SD := [.dat i.1, .un, .un, .dat i.2.1, .dat i.2.2.1, .dat i.2.2.2.1, .un, .un, .dat i.2.2.2.2, .un, .un, .un, .un, .un, .un, .un, .un]
def de_law_4 : List SD → Option ((PyData × PyData × PyData × PyData × PyData) × (Unit))
  | [.dat x0, .un, .un, .dat x3, .dat x4, .dat x5, .un, .un, .dat x8, .un, .un, .un, .un, .un, .un, .un, .un] => some ((x0, x3, x4, x5, x8), ())
  | _ => none
theorem hde_law_4 : ∀ env i s, de_law_4 env = some (i, s) → env = em_law_4 i s := by
  intro env i s h
  unfold de_law_4 at h
  split at h
  · cases h; rfl
  · cases h
def em_law_5 (i : PyData × PyData × PyData × PyData × PyData × PyData) (s : Unit) : List SD := [.dat i.1, .un, .un, .dat i.2.1, .dat i.2.2.1, .dat i.2.2.2.1, .un, .un, .un, .un, .un, .dat i.2.2.2.2.1, .dat i.2.2.2.2.2, .un, .un, .un, .un]
def de_law_5 : List SD → Option ((PyData × PyData × PyData × PyData × PyData × PyData) × (Unit))
  | [.dat x0, .un, .un, .dat x3, .dat x4, .dat x5, .un, .un, .un, .un, .un, .dat x11, .dat x12, .un, .un, .un, .un] => some ((x0, x3, x4, x5, x11, x12), ())
  | _ => none
theorem hde_law_5 : ∀ env i s, de_law_5 env = some (i, s) → env = em_law_5 i s := by
  intro env i s h
  unfold de_law_5 at h
  split at h
  · cases h; rfl
  · cases h
def em_law_6 (i : PyData × PyData × PyData × PyData × PyData × PyData × PyData) (s : Unit) : List SD := [.dat i.1, .un, .un, .dat i.2.1, .dat i.2.2.1, .dat i.2.2.2.1, .un, .un, .un, .un, .dat i.2.2.2.2.1, .dat i.2.2.2.2.2.1, .dat i.2.2.2.2.2.2, .un, .un, .un, .un]
def de_law_6 : List SD → Option ((PyData × PyData × PyData × PyData × PyData × PyData × PyData) × (Unit))
  | [.dat x0, .un, .un, .dat x3, .dat x4, .dat x5, .un, .un, .un, .un, .dat x10, .dat x11, .dat x12, .un, .un, .un, .un] => some ((x0, x3, x4, x5, x10, x11, x12), ())
  | _ => none
theorem hde_law_6 : ∀ env i s, de_law_6 env = some (i, s) → env = em_law_6 i s := by
  intro env i s h
  unfold de_law_6 at h
  split at h
  · cases h; rfl
  · cases h
def em_law_7 (i : PyData × PyData × PyData × PyData × PyData × PyData × PyData × PyData) (s : Unit) : List SD := [.dat i.1, .un, .un, .dat i.2.1, .dat i.2.2.1, .dat i.2.2.2.1, .un, .un, .un, .un, .dat i.2.2.2.2.1, .dat i.2.2.2.2.2.1, .dat i.2.2.2.2.2.2.1, .dat i.2.2.2.2.2.2.2, .un, .un, .un]
def de_law_7 : List SD → Option ((PyData × PyData × PyData × PyData × PyData × PyData × PyData × PyData) × (Unit))
  | [.dat x0, .un, .un, .dat x3, .dat x4, .dat x5, .un, .un, .un, .un, .dat x10, .dat x11, .dat x12, .dat x13, .un, .un, .un] => some ((x0, x3, x4, x5, x10, x11, x12, x13), ())
  | _ => none
theorem hde_law_7 : ∀ env i s, de_law_7 env = some (i, s) → env = em_law_7 i s := by
  intro env i s h
  unfold de_law_7 at h
  split at h
  · cases h; rfl
  · cases h
def S_law : DSp := fun as Q => match as with
  | [.dat x0] => q_law x0 (kk_law Q)
  | _ => False
theorem len_law (as : List SD) (Q : SD → List SD → Prop) (h : S_law as Q) : as.length = 1 := by
  unfold S_law at h
  split at h
  · rfl
  · exact h.elim
theorem cels_law : CelsIn 0 S_law := by
  intro as Q h i p xs e
  unfold S_law at h
  split at h
  · exact absurd e (no_cel (ds := [_]) i p xs)
  · exact h.elim
def N_law : List Str := ["_law_script", "_law_k", "_law_pot_here", "_law_roll_here", "_law_men", "_law_ships", "_law_ranks", "_law_hours_here", "_law_some", "_law_man", "_law_hour", "_law_names_here", "_law_other", "_law_ship", "_law_due", "_law_at", "_law_one"]
theorem sc_law : FnScope N_law ["_law_script"] (defScope (top 35)) := ⟨rfl, rfl, rfl, by decide +kernel, rfl, by decide +kernel, by decide +kernel⟩
theorem fg_law (T : Tp K mg) (D_law_called : Dn P w K mg base Tb "_law_called" 1 ["_law_roll_here", "_law_men", "_law_names_here"] S_law_called) (D_law_hours : Dn P w K mg base Tb "_law_hours" 2 ["_law_pot_here", "_law_roll_here"] S_law_hours) (D_law_one_right : Dn P w K mg base Tb "_law_one_right" 7 ["_law_roll_here", "_law_ships", "_law_man", "_law_hour"] S_law_one_right) (D_law_pot : Dn P w K mg base Tb "_law_pot" 1 ["_law_script", "_law_k"] S_law_pot) (D_law_roll : Dn P w K mg base Tb "_law_roll" 4 ["_law_pot_here", "_law_most"] S_law_roll) (D_law_row_more : Dn P w K mg base Tb "_law_row_more" 7 ["_law_pot_here", "_law_roll_here", "_law_men", "_law_hours_here", "_law_ships", "_law_ranks"] S_law_row_more) (D_law_take : Dn P w K mg base Tb "_law_take" 1 ["_law_pot_here", "_law_many"] S_law_take) (D_crew_at : Dn P w K mg base Tb "crew_at" 6 ["roll", "ship", "hour"] S_crew_at) {fd : FuncData} (Fn : Fun K "law" "law" (top 35) (He.ga K "law") fd) : FnG P w K mg base Tb 8 (He.ga K "law") fd ["_law_script"] S_law := by
  refine dfn 0 Fn sc_law len_law cels_law fun cdv A outer s H hr hA => ⟨_, (scons (sforQ [1, 2, 3, 4, 5, 6, 7, 8, 9, 10, 11, 12, 13, 14] de_law_1 em_law_1 kk_law qb_law_1 hde_law_1 PassesOwn.never rfl (irange1 (m_range T) (acons (dmax2 (m_max T) rfl (acons di (acons (dmin2 (m_min T) rfl (acons di (acons (dlen (m_len T) (acons (dv 0) anil)) anil))) anil))) anil)) (gn 1 sc_law.nd) (scons (sset 2 sc_law.nd (dcn D_law_pot (hr.mono (by decide)) hA (acons (dv 0) (acons (dv 1) anil)))) (scons (sasg (dfrz (dcnC 2 D_law_roll (hr.mono (by decide)) hA (acons (dixP (dfrz (dlst (acons di (acons di anil)))) (dintOf (m_int T) (acons (dcmp (op_eqE hr.units) opd_eq (dv 1) di (nomark _)) anil))) anil))) (gtup (gl_cons gok_n (gl_cons gok_n (gl_cons gok_n (gl_cons gok_n gl_nil)))) rfl (gcons (gn 3 sc_law.nd) (gcons (gn 4 sc_law.nd) (gcons (gn 5 sc_law.nd) (gcons (gn 6 sc_law.nd) gnil)))))) (scons (sset 7 sc_law.nd (dcnC 2 D_law_hours (hr.mono (by decide)) hA (acons (dv 3) anil))) (scons (sset 8 sc_law.nd (dx (dsl (dsl (dv 7) (so_some (dfrz (dcnC 2 D_law_take (hr.mono (by decide)) hA (acons (dlen (m_len T) (acons (dv 7) anil)) anil)))) so_none) so_none (so_some (dixP (dfrz (dlst (acons di (acons di anil)))) (dintOf (m_int T) (acons (dcmp (op_eqE hr.units) opd_eq (dv 1) di (nomark _)) anil))))))) (ssforget [7] (scons (sforQ [1, 9, 10] de_law_2 em_law_2 kk_law qb_law_2 hde_law_2 PassesOwn.never rfl (iseq (dsl (dv 4) so_none (so_some (dixP (dfrz (dlst (acons di (acons di anil)))) (dintOf (m_int T) (acons (dcmp (op_eqE hr.units) opd_eq (dv 1) di (nomark _)) anil)))))) (gn 9 sc_law.nd) (sone (sforQ [10] de_law_3 em_law_3 kk_law qb_law_3 hde_law_3 PassesOwn.never rfl (iseq (dv 8)) (gn 10 sc_law.nd) (sone (sif (tnot (dtest (dfrz (dcn D_law_one_right (hr.mono (by decide)) hA (acons (dv 3) (acons (dv 5) (acons (dv 9) (acons (dv 10) anil)))))))) (sone (sret (m := 0) (dx db))) snil)) (fun R d i s nx bk h => Eq.mp (by kernel_rfl) h))) (fun R d i s nx bk h => Eq.mp (by kernel_rfl) h)) (scons (sif (tnot (dtest (dfrz (dcnC 2 D_law_row_more (hr.mono (by decide)) hA (acons (dv 3) (acons (dv 4) (acons (dv 8) (acons (dv 5) (acons (dv 6) anil))))))))) (sone (sret (m := 0) (dx db))) snil) (ssforget [2, 6] (scons (sset 11 sc_law.nd (dlc (dec := de_law_4) (emb := em_law_4) (qb := qb_law_4) [("_law_at", 15)] (.one 15) hde_law_4 rfl sc_law.nd (irange1 (m_range T) (acons (dlen (m_len T) (acons (dv 4) anil)) anil)) (blkOk_by (own := [("_law_at", 15)]) (N := N_law) (sc := defScope (top 35)) (by decide +kernel)) (fun _ _ _ _ _ => pg_name (i := 15) sc_law.nd rfl (Or.inl rfl)) (fun _ _ _ _ _ => tyes) (fun _ _ _ _ _ => (dadd ds (dixP ds (dsub (dsub (dlen (m_len T) (acons (dv 4) anil)) di) (dv 15))))) (fun d i s sk yd h => Eq.mp (by kernel_rfl) h))) (ssfreeze2 11 (scons (sset 12 sc_law.nd (dcn D_law_called (hr.mono (by decide)) hA (acons (dv 3) (acons (dv 4) (acons (dv 11) anil))))) (sone (sforQ [8, 10, 13, 14] de_law_5 em_law_5 kk_law qb_law_5 hde_law_5 PassesOwn.never rfl (iseq (dsl (dv 8) so_none (so_some di))) (gn 10 sc_law.nd) (sone (sforQ [13, 14] de_law_6 em_law_6 kk_law qb_law_6 hde_law_6 PassesOwn.never rfl (iseq (dv 5)) (gn 13 sc_law.nd) (scons (sset 14 sc_law.nd (dx (dfrz (dsortedA hr (m_sorted T) (dfrz (dlc (dec := de_law_7) (emb := em_law_7) (qb := qb_law_7) [("_law_one", 16)] (.one 16) hde_law_7 rfl sc_law.nd (iseq (dfrz (dcn D_crew_at (hr.mono (by decide)) hA (acons (dv 3) (acons (dv 13) (acons (dv 10) anil)))))) (blkOk_by (own := [("_law_one", 16)]) (N := N_law) (sc := defScope (top 35)) (by decide +kernel)) (fun _ _ _ _ _ => pg_name (i := 16) sc_law.nd rfl (Or.inl rfl)) (fun _ _ _ _ _ => tyes) (fun _ _ _ _ _ => (dadd (dtup (acons (dixP (dv 11) (dlix hr.u65 (dv 4) (dixP (dv 16) di))) anil)) (dsl (dv 16) (so_some di) so_none))) (fun d i s sk yd h => Eq.mp (by kernel_rfl) h))))))) (sone (sif (dcmpT (op_neE hr.units) opd_ne (dfrz (dsortedA hr (m_sorted T) (dfrz (dcn D_crew_at (hr.mono (by decide)) hA (acons (dv 12) (acons (dv 13) (acons (dv 10) anil))))))) (dv 14) (nomark _)) (sone (sret (m := 0) (dx db))) snil))) (fun R d i s nx bk h => Eq.mp (by kernel_rfl) h))) (fun R d i s nx bk h => Eq.mp (by kernel_rfl) h)))))))))))))) (fun R d i s nx bk h => Eq.mp (by kernel_rfl) h)) (sone (sret (m := 0) (dx db)))), fun as Q h => ?_⟩
  unfold S_law at h
  split at h
  · unfold q_law at h
    rename_i x0
    refine at_env (b := [.dat x0, .un, .un, .un, .un, .un, .un, .un, .un, .un, .un, .un, .un, .un, .un, .un, .un]) rfl ?_
    exact Eq.mp (by kernel_rfl) h
  · exact h.elim
theorem ok_law (T : Tp K mg) (D_law_called : Dn P w K mg base Tb "_law_called" 1 ["_law_roll_here", "_law_men", "_law_names_here"] S_law_called) (D_law_hours : Dn P w K mg base Tb "_law_hours" 2 ["_law_pot_here", "_law_roll_here"] S_law_hours) (D_law_one_right : Dn P w K mg base Tb "_law_one_right" 7 ["_law_roll_here", "_law_ships", "_law_man", "_law_hour"] S_law_one_right) (D_law_pot : Dn P w K mg base Tb "_law_pot" 1 ["_law_script", "_law_k"] S_law_pot) (D_law_roll : Dn P w K mg base Tb "_law_roll" 4 ["_law_pot_here", "_law_most"] S_law_roll) (D_law_row_more : Dn P w K mg base Tb "_law_row_more" 7 ["_law_pot_here", "_law_roll_here", "_law_men", "_law_hours_here", "_law_ships", "_law_ranks"] S_law_row_more) (D_law_take : Dn P w K mg base Tb "_law_take" 1 ["_law_pot_here", "_law_many"] S_law_take) (D_crew_at : Dn P w K mg base Tb "crew_at" 6 ["roll", "ship", "hour"] S_crew_at) : Dn P w K mg base Tb "law" 8 ["_law_script"] S_law := by
  obtain ⟨kV, doc, pm, an, cdv, ct, Fn⟩ := T.fun_ "law" (top 35) 23 63
  exact ⟨⟨_, fg_law T D_law_called D_law_hours D_law_one_right D_law_pot D_law_roll D_law_row_more D_law_take D_crew_at Fn, Fn.binds (ps := ["_law_script"]) fun _ _ _ _ _ _ us hl => match us, hl with | [_], _ => rfl⟩, T.glo "law" 39, T.keep "law" 63⟩
theorem law_imp (as : List SD) (Q : SD → List SD → Prop) (h : lawS 63 as Q) : S_law as Q := by
  unfold lawS at h
  split at h
  · obtain ⟨⟨ns, rfl, hn⟩, h⟩ := h
    exact the_law ns hn _ (h [])
  · exact h.elim

end
theorem facts {P : Program} {w : World} {K : PySem.W.Frag} {h : Heap} {mg : Str → Option Value} {f : Addr} (X : K.In h) (G : h.Ns mainGlobals mg) (hfa : mg ("law" : Str) = some (.ref f)) (c : He.SaysE fa fn K) (cx : FxSays fx K) :
    ∃ fd : FuncData, (∀ (s : Shared) (v : Value), BindsTo s fd ⟨[v], []⟩ [("_law_script", v)]) ∧ ∀ base : Heap, K.In base → base.Ns mainGlobals mg → SysD base → LamB K base mg (tabsOf K lam) lam → FnG P w K mg base (tabsOf K lam) 8 f fd ["_law_script"] (lawS 63) := by
  have T : Tp K mg := ⟨⟨c, h, X, G⟩, cx⟩
  have e := hfa.symm.trans (T.glo "law" 39)
  cases e
  obtain ⟨kV, doc, pm, an, cdv, ct, Fn⟩ := T.fun_ "law" (top 35) 23 63
  refine ⟨PySem.W.fnOf "law" "law" (defArgs (top 35)) (defBody (top 35)) (defScope (top 35)) .none kV doc pm an cdv ct, fun s v => .of_eq rfl, fun base _ _ BD LB => ?_⟩
  haveI : SysB base := ⟨BD⟩
  have D_is_whole : Dn P w K mg base (tabsOf K lam) "is_whole" 1 ["thing"] S_is_whole := ok_is_whole T 
  have D_is_name : Dn P w K mg base (tabsOf K lam) "is_name" 1 ["thing"] S_is_name := ok_is_name T 
  have D_is_hour : Dn P w K mg base (tabsOf K lam) "is_hour" 2 ["thing"] S_is_hour := ok_is_hour T D_is_whole
  have D_is_row : Dn P w K mg base (tabsOf K lam) "is_row" 3 ["thing"] S_is_row := ok_is_row T D_is_hour D_is_name
  have D_is_roll : Dn P w K mg base (tabsOf K lam) "is_roll" 4 ["thing"] S_is_roll := ok_is_roll T D_is_row
  have D_need_roll : Dn P w K mg base (tabsOf K lam) "need_roll" 5 ["thing"] S_need_roll := ok_need_roll T D_is_roll
  have D_need_name : Dn P w K mg base (tabsOf K lam) "need_name" 2 ["thing"] S_need_name := ok_need_name T D_is_name
  have D_need_hour : Dn P w K mg base (tabsOf K lam) "need_hour" 3 ["thing"] S_need_hour := ok_need_hour T D_is_hour
  have D_rows_of : Dn P w K mg base (tabsOf K lam) "rows_of" 1 ["roll", "man"] S_rows_of := ok_rows_of T 
  have D_standing : Dn P w K mg base (tabsOf K lam) "standing" 1 ["rows", "hour"] S_standing := ok_standing T 
  have D_where_at : Dn P w K mg base (tabsOf K lam) "where_at" 6 ["roll", "man", "hour"] S_where_at := ok_where_at T D_need_hour D_need_name D_need_roll D_rows_of D_standing
  have D_by_since : Dn P w K mg base (tabsOf K lam) "by_since" 1 ["crew"] S_by_since := ok_by_since T 
  have D_crew_at : Dn P w K mg base (tabsOf K lam) "crew_at" 6 ["roll", "ship", "hour"] S_crew_at := ok_crew_at T D_by_since D_need_hour D_need_name D_need_roll D_rows_of D_standing
  have D_stays_of : Dn P w K mg base (tabsOf K lam) "stays_of" 6 ["roll", "man"] S_stays_of := ok_stays_of T D_need_name D_need_roll D_rows_of
  have D_law_pot : Dn P w K mg base (tabsOf K lam) "_law_pot" 1 ["_law_script", "_law_k"] S_law_pot := ok_law_pot T 
  have D_law_take : Dn P w K mg base (tabsOf K lam) "_law_take" 1 ["_law_pot_here", "_law_many"] S_law_take := ok_law_take T 
  have D_law_name : Dn P w K mg base (tabsOf K lam) "_law_name" 2 ["_law_pot_here"] S_law_name := ok_law_name T D_law_take
  have D_law_names : Dn P w K mg base (tabsOf K lam) "_law_names" 3 ["_law_pot_here", "_law_most"] S_law_names := ok_law_names T D_law_name D_law_take
  have D_law_roll : Dn P w K mg base (tabsOf K lam) "_law_roll" 4 ["_law_pot_here", "_law_most"] S_law_roll := ok_law_roll T D_law_names D_law_take
  have D_law_hours : Dn P w K mg base (tabsOf K lam) "_law_hours" 2 ["_law_pot_here", "_law_roll_here"] S_law_hours := ok_law_hours T D_law_take
  have D_law_one_right : Dn P w K mg base (tabsOf K lam) "_law_one_right" 7 ["_law_roll_here", "_law_ships", "_law_man", "_law_hour"] S_law_one_right := ok_law_one_right T D_crew_at D_stays_of D_where_at
  have D_law_row_more : Dn P w K mg base (tabsOf K lam) "_law_row_more" 7 ["_law_pot_here", "_law_roll_here", "_law_men", "_law_hours_here", "_law_ships", "_law_ranks"] S_law_row_more := ok_law_row_more T D_law_take D_stays_of D_where_at
  have D_law_called : Dn P w K mg base (tabsOf K lam) "_law_called" 1 ["_law_roll_here", "_law_men", "_law_names_here"] S_law_called := ok_law_called T 
  exact (fg_law T D_law_called D_law_hours D_law_one_right D_law_pot D_law_roll D_law_row_more D_law_take D_crew_at Fn).imp law_imp
/-! ### the head -/
abbrev hk : PySem.W.Hook := hookF 20000 fa fn fx lam
def ob (s : PySem.W.SharedT) : He.Al × Bool × Bool × Bool := obsF 20000 fa fn fx lam (HandSHeadRun.getT s)
theorem ob_eq (s : PySem.W.SharedT) : ob s = hk.obs s.abs := obsF_eq (HandSHeadRun.getT_eq s)
open PySem.W HandSHeadRun in
theorem looks_eq (w : World) : (fun s : PySem.W.SharedT => HandSHeadRun.looksF R.prog (boot_heap w.params) s.abs) = fun s => PySem.W.staticsOk (importedModules R.prog.main.body) (boot_heap w.params) s.abs.heap && boundF R.prog s.abs.heap && PySem.W.gensDone s.abs && PySem.W.laidKept (boot_heap w.params) s.abs.heap := funext fun s => by
  unfold HandSHeadRun.looksF
  rw [boundF_eq]
theorem run (w : World) : HandSHeadRun.RunEq R (PySem.W.view R.prog [35]) hk ob 20000 loose w := fun os => map_two (by rw [looks_eq]; exact run_l w os) (map_two (run_s w os) (run_o w os))
end K35
open PySem PySem.W PySem.Calls PyProof.Rows
set_option maxHeartbeats 0 in
theorem PySem.Challenge.cw_prizelog_k35_whole_rolls_holds : PySem.Challenge.rw_prizelog_k35_whole_rolls.Holds := by
  refine K35.f_law fun said => ?_
  refine HandSHeadRun.head_any (r := K35.R) (q := view K35.R.prog [35]) (H := K35.hk) (ob := K35.ob) (M := 20000) (loose := K35.loose) (d := HandSHeadRun.topDef K35.R.prog 35) (kwd := []) K35.ob_eq
    K35.f_open K35.f_fence K35.run K35.f_def K35.f_the K35.f_kw (by rfl) said K35.f_ok K35.f_bare ?hw ?hc
  case hw => w_witness2
  case hc =>
    refine DL.walk_dataL (lam := K35.lam) (l := PySem.Challenge.rw_prizelog_k35_whole_rolls) (n := 63) (k := 8) (x := "_law_script") rfl (by decide) (by kernel_rfl) ⟨rfl, by decide, by decide⟩ ?F
    intro w mg fa h Y G hmg0
    obtain ⟨⟨K, KX, c, cx, cl⟩, hsys⟩ := Y
    have hmg : mg ("law" : PySem.Str) = some (.ref fa) := by
      have e : (HandSHeadRun.topDef K35.R.prog 35).name = ("law" : PySem.Str) := by kernel_rfl
      rw [← e]
      exact hmg0
    obtain ⟨fd, hb, hF⟩ := K35.facts (P := (PySem.Challenge.rw_prizelog_k35_whole_rolls).prog) (w := w) KX G hmg c cx
    exact ⟨K, fd, KX, hsys, cl, hb, hF⟩
