import PyProof.Rows.All
import Wide.All
import OpenK.AllK
import Wide.FinOn
import HandS.Words
import HandS.Head0
import HandS.Head1
import HandS.Head2
import HandS.HeadHook1
import HandS.TupAny
import HandS.TupMul
import HandS.Conv
import HandS.Iter
import HandS.Deep
import HandS.ForMost
import HandS.Exc
import HandS.ExcOwn
import HandS.TryOnly
import HandS.WordsExc
import HandS.Wide
import HandS.IsInst
import HandS.Walk
import HandS.Zip
import HandS.Evl
import HandS.ExcIs
import HandS.Lambda
import HandS.HeadEnd
import PyProof.ReprBulk
import KE.KTupSum
import HandS.Style
import HandS.Dict
import KE.GoesEnum
import HandS.Flt
import KE.DatumOrd
import PyProof.P3In
import HandS.SetFor
import HandS.Strs
import HandS.ExcCtx
import HandS.HotCalls
import HandS.More
import KE.SortData
import KE.DataAny
import KE.KDictSum
import KE.GoesComp
import HandS.TupSets
import KE.SortKeyHeap
import HandS.SortKw
import HandS.EndTab
import HandS.WordsDict
import KE.KDictPairs
import KE.KEqDict
import KE.KDictCopyH
import HandS.ListItems
import HandS.Hot
import HandS.Text
import PySem.Challenge.RW_prizelog_k82_whole_no_fewer_payments
set_option Elab.async false
set_option linter.all false
set_option maxRecDepth 100000
set_option maxHeartbeats 4000000
/-! The data layer, part A: what the head's run looks at (it stands ahead of all else in a hand-in). -/
namespace DL
open PySem PySem.Spec PyProof.Rows L2
/-- the classes of refusals -/
def exNames : List Str := "PrizeError" :: "NoBalances" :: []
def exBases : List Value := [.type "ValueError", .type "Exception", .type "BaseException", .type "object"]
def exTypes : List String := ["int", "bool", "str", "tuple", "dict"]
/-- whether the one is the other or of it -/
def exSub (c d : Str) : Bool := decide (c = d) || decide (d = "PrizeError")
/-- what a class of refusals must say -/
def xcB (K : PySem.W.Frag) (c : Str) : Bool :=
  decide (PySem.W.findIn K (.ref (He.ga K c)) "__getattribute__" = some (some (.builtin "BaseException.__getattribute__"))) &&
  (decide (PySem.W.findIn K (.ref (He.ga K c)) "__getattr__" = some none) &&
  (decide (PySem.W.subIn K (.ref (He.ga K c)) (.type "BaseException") = some true) &&
  (PySem.W.hasDictIn K (He.ga K c) &&
  (decide (PySem.W.findIn K (.ref (He.ga K c)) "__class__" = some (some (.builtin "object.__class__"))) &&
  (decide (PySem.W.specialIn K (.builtin "object.__class__") "__get__" = some (some (.builtin "getset_descriptor.__get__"))) &&
  (decide (PySem.W.takesIn K (.builtin "object.__class__") = some true) &&
  (decide (PySem.W.mroIn K (He.ga K c) (.type "object") = some true) &&
  (PySem.W.excIn K (He.ga K c) exBases "ValueError.__new__" &&
  (PySem.W.keepIn K (.ref (He.ga K c)) &&
  (decide (PySem.W.typeIn K (.ref (He.ga K c)) = some (.type "type")) &&
  (decide (PySem.W.exmOne K (.ref (He.ga K c)) (.ref (He.ga K "PrizeError")) = some true) &&
  (decide (PySem.W.kitOne K (.ref (He.ga K c)) (.type "ValueError") = some true) &&
  (exTypes.all (fun T => decide (PySem.W.kitOne K (.ref (He.ga K c)) (.type T) = some false)) &&
  exNames.all (fun d => decide (PySem.W.kitOne K (.ref (He.ga K c)) (.ref (He.ga K d)) = some (exSub c d))))))))))))))))
/-- the head's facts, and that the modules' dict stands -/
def sysB (g : Addr → Option Obj) : Bool := match g sysModules with
  | some ⟨_, _, .dict _ _, _⟩ => true
  | _ => false
/-- an empty table of code objects -/
def isTab : Option Obj → Bool
  | some ⟨.none, none, .fields vs, sl⟩ => vs.isEmpty && sl.isEmpty
  | _ => false
def uniT (l : List (Addr × Str)) : Bool := l.all fun p => l.all fun q => decide (p.1 = q.1 → p.2 = q.2)
inductive Fx where
  | tup (x : Str) (ns : List Int)
  | exc (c : Str)
  | txt (x z : Str)
def intsB : List Value → List Int → Bool
  | [], [] => true
  | .int i _ :: r, n :: ns => decide (i = n) && intsB r ns
  | _, _ => false
def tupB (K : PySem.W.Frag) (a : Addr) (ns : List Int) : Bool := match K.lookup a with
  | some ⟨c, none, .seq its _, _⟩ => decide (c = .type "tuple") && (decide (its.size ≤ 1000) && intsB its.toList ns)
  | _ => false
def Fx.ok (K : PySem.W.Frag) : Fx → Bool
  | .tup x ns => He.eqO (PySem.W.nsIn K mainGlobals x) (some (some (.ref (He.ga K x)))) && tupB K (He.ga K x) ns
  | .exc c => He.eqO (PySem.W.nsIn K mainGlobals c) (some (some (.ref (He.ga K c)))) && xcB K c
  | .txt x z => (He.Fa.str x z).ok K
theorem frG_look {g : Addr → Option Obj} {a : Addr} : ∀ as : List Addr, (He.frG g as).lookup a = if a ∈ as then g a else none
  | [] => rfl
  | b :: r => by
    have ih := frG_look (g := g) (a := a) r
    cases hb : g b with
    | none =>
      have e : He.frG g (b :: r) = He.frG g r := by
        unfold He.frG
        rw [List.filterMap_cons, hb]
        rfl
      rw [e, ih]
      by_cases z : a = b
      · subst z
        by_cases m : a ∈ r <;> simp [m, hb]
      · simp [z]
    | some o =>
      have e : He.frG g (b :: r) = (b, o) :: He.frG g r := by
        unfold He.frG
        rw [List.filterMap_cons, hb]
        rfl
      rw [e]
      by_cases z : a = b
      · subst z
        simp [hb]
      · have q : (a == b) = false := by simpa using z
        show (match a == b with | true => some o | false => (He.frG g r).lookup a) = _
        rw [q]
        show (He.frG g r).lookup a = _
        rw [ih]
        simp [z]
/-- the object at an address below n, tables of code left out -/
def kG (g : Addr → Option Obj) (n : Nat) (a : Addr) : Option Obj := match Nat.blt a n with
  | true => (match g a with
    | some o => (match isTab (some o) with
      | true => none
      | false => some o)
    | none => none)
  | false => none
def hotOk (g : Addr → Option Obj) (n : Nat) (hot : List Addr) : Bool := hot.all fun a => Nat.blt a n && !isTab (g a)
/-- all objects below n but tables of code, those of hot first -/
def kAll (g : Addr → Option Obj) (n : Nat) (hot : List Addr) : PySem.W.Frag := He.frG g (hot ++ (List.range n).filter fun a => !isTab (g a))
theorem kAll_look {g : Addr → Option Obj} {n : Nat} {hot : List Addr} (h : hotOk g n hot = true) (a : Addr) : (kAll g n hot).lookup a = kG g n a := by
  have hm : (a ∈ hot ++ (List.range n).filter fun a => !isTab (g a)) ↔ (a < n ∧ isTab (g a) = false) := by
    rw [List.mem_append, List.mem_filter, List.mem_range]
    constructor
    · rintro (m | ⟨h1, h2⟩)
      · obtain ⟨z1, z2⟩ := He.ba (List.all_eq_true.mp h a m)
        exact ⟨Nat.le_of_ble_eq_true z1, by simpa using z2⟩
      · exact ⟨h1, by simpa using h2⟩
    · rintro ⟨h1, h2⟩
      exact .inr ⟨h1, by simp [h2]⟩
  unfold kAll
  rw [frG_look]
  unfold kG
  by_cases lt : a < n
  · rw [show Nat.blt a n = true from Nat.ble_eq_true_of_le lt]
    cases q : g a with
    | none => simp
    | some o =>
      cases t : isTab (some o) with
      | true =>
        rw [if_neg fun m => by
          have := (hm.mp m).2
          rw [q, t] at this
          cases this]
        simp [t]
      | false => rw [if_pos (hm.mpr ⟨lt, by rw [q, t]⟩)]; simp [t]
  · rw [show Nat.blt a n = false from by
      cases z : Nat.blt a n with
      | false => rfl
      | true => exact absurd (Nat.le_of_ble_eq_true z) lt]
    rw [if_neg fun m => lt (hm.mp m).1]
/-! ### names by numbers -/
def codeS (x : Str) : Nat := x.cps.toList.foldl (fun a c => a * 1114112 + c) 7
def codeV : Value → Nat
  | .str x _ => codeS x
  | _ => 0
def nsE (o : Option Obj) (x : Str) : Option (Option Value) := match o with
  | some ⟨_, _, .dict es _, _⟩ => (match es.toList.find? (fun e => match Nat.beq (codeV e.key) (codeS x) with
      | true => e.key.isStr x
      | false => false) with
    | some e => some (some e.val)
    | none => if es.toList.any (·.refKey) then none else some none)
  | _ => none
theorem isStr_code (x : Str) (e : DictEntry) : (match Nat.beq (codeV e.key) (codeS x) with
      | true => e.key.isStr x
      | false => false) = e.key.isStr x := by
  cases q : Nat.beq (codeV e.key) (codeS x) with
  | true => rfl
  | false =>
    cases z : e.key.isStr x with
    | false => rfl
    | true =>
      exfalso
      cases k : e.key with
      | str y t =>
        rw [k] at z q
        have e1 : (y == x) = true := z
        have e2 : y = x := by simpa using e1
        rw [e2] at q
        have q2 : Nat.beq (codeS x) (codeS x) = false := q
        rw [Nat.beq_refl] at q2
        cases q2
      | _ => rw [k] at z; cases z
theorem nsE_eq (K : PySem.W.Frag) (ns : Addr) (x : Str) : PySem.W.nsIn K ns x = nsE (K.lookup ns) x := by
  unfold PySem.W.nsIn nsE
  have e : (fun e : DictEntry => match Nat.beq (codeV e.key) (codeS x) with
      | true => e.key.isStr x
      | false => false) = fun e => e.key.isStr x := funext fun e => isStr_code x e
  rw [e]
  rfl
def gaF (o : Option Obj) (x : Str) : Addr := match nsE o x with
  | some (some (.ref a)) => a
  | _ => 0
def isRf (o : Option Obj) (x : Str) : Bool := match nsE o x with
  | some (some (.ref _)) => true
  | _ => false
section
variable {K : PySem.W.Frag} {g : Addr → Option Obj} {n : Nat} {o : Option Obj}
theorem gaF_eq (ho : K.lookup mainGlobals = o) (x : Str) : He.ga K x = gaF o x := by
  unfold He.ga gaF
  rw [nsE_eq, ho]
  rfl
theorem isRf_ok (ho : K.lookup mainGlobals = o) {x : Str} (h : isRf o x = true) : He.eqO (PySem.W.nsIn K mainGlobals x) (some (some (.ref (He.ga K x)))) = true := by
  unfold isRf at h
  unfold He.eqO He.ga
  rw [nsE_eq, ho]
  cases q : nsE o x with
  | none => rw [q] at h; cases h
  | some v =>
    cases v with
    | none => rw [q] at h; cases h
    | some v =>
      cases v with
      | ref a => simp
      | _ => rw [q] at h; cases h
def faF (K : PySem.W.Frag) (g : Addr → Option Obj) (n : Nat) (o : Option Obj) : He.Fa → Bool
  | .glo x => isRf o x
  | .free x => (match nsE o x with
    | some none => true
    | _ => false)
  | .int x i => (match nsE o x with
    | some (some (.int j _)) => decide (j = i)
    | _ => false)
  | .keep x => (match kG g n (gaF o x) with
    | some ⟨_, _, .func _, _⟩ => true
    | _ => false)
  | f => f.ok K
theorem faF_ok (ho : K.lookup mainGlobals = o) (hk : ∀ a, K.lookup a = kG g n a) {f : He.Fa} (h : faF K g n o f = true) : f.ok K = true := by
  cases f with
  | glo x => exact isRf_ok ho h
  | free x =>
    have h : (match nsE o x with
      | some none => true
      | _ => false) = true := h
    show decide (PySem.W.nsIn K mainGlobals x = some none) = true
    rw [nsE_eq, ho]
    split at h
    · rename_i e
      rw [e]
      simp
    · cases h
  | int x i =>
    have h : (match nsE o x with
      | some (some (.int j _)) => decide (j = i)
      | _ => false) = true := h
    show (match PySem.W.nsIn K mainGlobals x with
      | some (some (.int j _)) => decide (j = i)
      | _ => false) = true
    rw [nsE_eq, ho]
    exact h
  | keep x =>
    have h : (match kG g n (gaF o x) with
      | some ⟨_, _, .func _, _⟩ => true
      | _ => false) = true := h
    show PySem.W.keepIn K (.ref (He.ga K x)) = true
    unfold PySem.W.keepIn
    dsimp only
    rw [hk, gaF_eq ho]
    split at h
    · rename_i e
      rw [e]
    · cases h
  | _ => exact h
/-- a def's address -/
def fAdF (K : PySem.W.Frag) (o : Option Obj) (p : Str × Option Str) : Addr := match p.2 with
  | none => gaF o p.1
  | some m => He.ma K (He.ga K p.1) m
theorem fAdF_eq (ho : K.lookup mainGlobals = o) (p : Str × Option Str) : He.fAd K p = fAdF K o p := by
  unfold He.fAd fAdF
  cases p.2 with
  | none => exact gaF_eq ho _
  | some m => rfl
def codeF (g : Addr → Option Obj) (n : Nat) (q : Str) : Value → Bool
  | .ref c => (match kG g n c with
      | some ⟨_, _, .fields vs, _⟩ => (match vs.toList with | _ :: .str n _ :: _ => n == q | _ => false)
      | _ => false)
  | _ => false
theorem codeF_eq (hk : ∀ a, K.lookup a = kG g n a) (v : Value) (q : Str) : PySem.W.codeIn K v q = codeF g n q v := by
  unfold PySem.W.codeIn codeF
  cases v with
  | ref c => dsimp only; rw [hk]; rfl
  | _ => rfl
def dcF (K : PySem.W.Frag) (g : Addr → Option Obj) (n : Nat) (o : Option Obj) (d : He.FnD) : Bool := match kG g n (fAdF K o d.at_) with
  | some ⟨_, _, .func fd, _⟩ => codeF g n d.qual fd.code
  | _ => false
def dvF (K : PySem.W.Frag) (g : Addr → Option Obj) (n : Nat) (o : Option Obj) (d : He.FnD) : He.FnV := match kG g n (fAdF K o d.at_) with
  | some ⟨_, _, .func fd, _⟩ => some (fd.name, fd.qualname, fd.params, fd.body, fd.scope, fd.globals, fd.closure, fd.defaults, fd.builtins)
  | _ => none
theorem dcF_eq (ho : K.lookup mainGlobals = o) (hk : ∀ a, K.lookup a = kG g n a) (d : He.FnD) : (He.Fa.code d.at_ d.qual).ok K = dcF K g n o d := by
  show (match K.lookup (He.fAd K d.at_) with
    | some ⟨_, _, .func fd, _⟩ => PySem.W.codeIn K fd.code d.qual
    | _ => false) = _
  unfold dcF
  rw [hk, fAdF_eq ho]
  split
  · exact codeF_eq hk _ _
  · rfl
theorem dvF_eq (ho : K.lookup mainGlobals = o) (hk : ∀ a, K.lookup a = kG g n a) (d : He.FnD) : He.fnObs K d.at_ = dvF K g n o d := by
  unfold He.fnObs dvF
  rw [hk, fAdF_eq ho]
  rfl
/-! ### more facts -/
def fxF (K : PySem.W.Frag) (g : Addr → Option Obj) (n : Nat) (o : Option Obj) : Fx → Bool
  | .tup x ns => isRf o x && (match kG g n (gaF o x) with
    | some ⟨c, none, .seq its _, _⟩ => decide (c = .type "tuple") && (decide (its.size ≤ 1000) && intsB its.toList ns)
    | _ => false)
  | .exc c => isRf o c && xcB K c
  | .txt x z => (match nsE o x with
    | some (some (.str y _)) => decide (y = z)
    | _ => false)
theorem fxF_ok (ho : K.lookup mainGlobals = o) (hk : ∀ a, K.lookup a = kG g n a) {f : Fx} (h : fxF K g n o f = true) : f.ok K = true := by
  cases f with
  | tup x ns =>
    obtain ⟨h1, h2⟩ := He.ba h
    unfold Fx.ok
    dsimp only
    rw [isRf_ok ho h1]
    unfold tupB
    rw [hk, gaF_eq ho]
    exact h2
  | exc c =>
    obtain ⟨h1, h2⟩ := He.ba h
    unfold Fx.ok
    dsimp only
    rw [isRf_ok ho h1]
    exact h2
  | txt x z =>
    have h : (match nsE o x with
      | some (some (.str y _)) => decide (y = z)
      | _ => false) = true := h
    show (match PySem.W.nsIn K mainGlobals x with
      | some (some (.str y _)) => decide (y = z)
      | _ => false) = true
    rw [nsE_eq, ho]
    exact h
/-! ### tables -/
def tabF (g : Addr → Option Obj) (n : Nat) (o : Option Obj) (x : Str) : Option (Addr × Addr) := match nsE o x with
  | some (some (.ref f)) => (match kG g n f with
    | some ⟨_, _, .func fd, _⟩ => (match fd.code with
      | .ref c => (match kG g n c with
        | some ⟨_, _, .fields vs, _⟩ => (match (vs[11]? : Option Value) with
          | some (.ref P) => some (c, P)
          | _ => none)
        | _ => none)
      | _ => none)
    | _ => none)
  | _ => none
theorem tabF_eq (ho : K.lookup mainGlobals = o) (hk : ∀ a, K.lookup a = kG g n a) (x : Str) : PySem.W.tabIn K x = tabF g n o x := by
  unfold PySem.W.tabIn tabF
  rw [nsE_eq, ho]
  cases nsE o x with
  | none => rfl
  | some v => cases v with
    | none => rfl
    | some v => cases v with
      | ref f =>
        dsimp only
        rw [hk]
        cases kG g n f with
        | none => rfl
        | some ob =>
          obtain ⟨c, d, dt, sl⟩ := ob
          cases dt with
          | func fd =>
            dsimp only
            cases fd.code with
            | ref c =>
              dsimp only
              rw [hk]
              rfl
            | _ => rfl
          | _ => rfl
      | _ => rfl
def codeHdF (g : Addr → Option Obj) (n : Nat) (c P : Addr) : Bool := match kG g n c with
  | some ⟨.type "code", _, .fields vs, _⟩ => (match (vs[11]? : Option Value) with | some (.ref P') => P' == P | _ => false) &&
      (match vs.getD 18 .none with | .str _ _ => true | _ => false) && (match vs.getD 7 .none with | .int _ _ => true | _ => false) &&
      (match vs.getD 9 .none with | .bool _ => true | _ => false) && (match vs.getD 10 .none with | .int _ _ => true | _ => false) && c != P
  | _ => false
theorem codeHdF_eq (hk : ∀ a, K.lookup a = kG g n a) (c P : Addr) : PySem.W.codeHdIn K c P = codeHdF g n c P := by
  unfold PySem.W.codeHdIn codeHdF
  rw [hk]
  rfl
def lamF (g : Addr → Option Obj) (n : Nat) (o : Option Obj) (lam : List (Str × Str)) : Bool :=
  (lam.all fun p => match tabF g n o p.1 with
    | some (c, P) => codeHdF g n c P && isTab (g P)
    | none => false) && uniT (lam.filterMap fun p => (tabF g n o p.1).map fun z => (z.2, p.2))
end
def nsOf : Option Obj → Addr
  | some ⟨_, _, .cls cd, _⟩ => cd.ns
  | _ => mainGlobals
/-- the addresses that the looks at the classes of refusals ask for -/
def hotX (g : Addr → Option Obj) (n : Nat) (o : Option Obj) (fx : List Fx) : List Addr :=
  mainGlobals :: gaF o "PrizeError" :: nsOf (kG g n (gaF o "PrizeError")) :: fx.flatMap fun f => match f with
    | .exc c => [gaF o c, nsOf (kG g n (gaF o c))]
    | _ => []
def obsF (n : Nat) (fa : List He.Fa) (fn : List He.FnD) (fx : List Fx) (lam : List (Str × Str)) (g : Addr → Option Obj) : He.Al × Bool × Bool × Bool :=
  (((hotOk g n (hotX g n (kG g n mainGlobals) fx) && (fa.all (faF (kAll g n (hotX g n (kG g n mainGlobals) fx)) g n (kG g n mainGlobals)) && fn.all (dcF (kAll g n (hotX g n (kG g n mainGlobals) fx)) g n (kG g n mainGlobals)))), fn.map (dvF (kAll g n (hotX g n (kG g n mainGlobals) fx)) g n (kG g n mainGlobals))),
    sysB g, fx.all (fxF (kAll g n (hotX g n (kG g n mainGlobals) fx)) g n (kG g n mainGlobals)), lamF g n (kG g n mainGlobals) lam)
/-! ### names that are bound -/
def inF (l : List Str) (k : Str) : Bool := l.any fun x => match Nat.beq (codeS x) (codeS k) with
  | true => x == k
  | false => false
theorem inF_eq (l : List Str) (k : Str) : l.contains k = inF l k := by
  rw [Bool.eq_iff_iff, List.contains_iff_mem]
  unfold inF
  rw [List.any_eq_true]
  constructor
  · intro h
    refine ⟨k, h, ?_⟩
    rw [Nat.beq_refl]
    simp
  · rintro ⟨x, hx, e⟩
    cases q : Nat.beq (codeS x) (codeS k) with
    | true =>
      rw [q] at e
      have : x = k := by simpa using e
      exact this ▸ hx
    | false => rw [q] at e; cases e
def boundF (p : Program) (h : Heap) : Bool := h.isNs mainGlobals && (h.nsKeys mainGlobals).all fun k => inF startupNames k || inF p.boundNames k
theorem boundF_eq (p : Program) (h : Heap) : PySem.W.namesBound p h = boundF p h := by
  unfold PySem.W.namesBound boundF
  have e : (fun k => startupNames.contains k || p.boundNames.contains k) = fun k => inF startupNames k || inF p.boundNames k := funext fun k => by rw [inF_eq, inF_eq]
  rw [e]
/-! ### looks put together -/
theorem map_two {α β γ : Type} {o : Option α} {f : α → β} {g : α → γ} {b : β} {c : γ} (h1 : o.map f = some b) (h2 : o.map g = some c) : o.map (fun s => (f s, g s)) = some (b, c) := by
  cases o with
  | none => cases h1
  | some s =>
    cases h1
    cases h2
    rfl
theorem map_and {α : Type} {o : Option α} {f g : α → Bool} (h1 : o.map f = some true) (h2 : o.map g = some true) : o.map (fun s => f s && g s) = some true := by
  cases o with
  | none => cases h1
  | some s =>
    have e1 : f s = true := Option.some.inj h1
    have e2 : g s = true := Option.some.inj h2
    show some (f s && g s) = some true
    rw [e1, e2]
    rfl
end DL

namespace DL
open PySem PySem.Spec PyProof.Rows L2
/-- a tuple's object that has no dict -/
def PlT (o : Obj) : Prop := o.cls = .type "tuple" ∧ o.dict = none
section
variable {X : Cx} {pins : List (Addr × Obj)} {σ : L2.St} {H : Hp} {s : Shared}
theorem layZ (I : Inv X pins σ H s) {xs : List V} {its : List Value} {arr : Array Value} {tk : Nat} (r : Vals xs its) (ha : arr = its.toArray) (hz : xs.length ≤ sizeLine) :
    ∃ o, PlT o ∧ Inv X pins σ (upd H s.heap.objs.size (.frz o (.tup xs))) { s with heap := s.heap.push { cls := .type "tuple", data := .seq arr }, toks := tk } := by
  subst ha
  refine ⟨{ cls := .type "tuple", data := .seq its.toArray }, ⟨rfl, rfl⟩, I.laid (fun b u e => Heap.get?_push_of_some _ e) (Nat.le_refl _) ?_⟩
  exact ⟨Heap.get?_push_size _ rfl, hz, its, r, ⟨_, Heap.get?_push_size _ rfl, rfl, _, rfl⟩⟩
/-- what a new tuple of the items xs is answered with -/
def NewZ (H : Hp) (xs : List V) (Q : VK) : Prop := ∀ p o, H p = none → PlT o → Q (.ref p) (upd H p (.frz o (.tup xs)))
theorem endZ (I : Inv X pins σ H s) {xs : List V} {its : List Value} {arr : Array Value} {tk : Nat} {Q : VK} (r : Vals xs its) (ha : arr = its.toArray) (hz : xs.length ≤ sizeLine) (q : NewZ H xs Q) :
    EP X pins σ Q (.ref s.heap.objs.size) { s with heap := s.heap.push { cls := .type "tuple", data := .seq arr }, toks := tk } := by
  obtain ⟨o, po, J⟩ := layZ (tk := tk) I r ha hz
  exact ⟨.ref s.heap.objs.size, _, J, rfl, q _ _ (I.hok.fresh (Nat.le_refl _)) po⟩
end
section
variable {X : Cx} {a b e : Expr} {es : List Expr} {t : TA} {ta : TE} {pos : Pos}
def tTupZ (t : TA) : TE := fun σ H Q => t σ H fun xs H1 => xs.length ≤ sizeLine ∧ NewZ H1 xs Q
theorem pe_tupZ {x1} (h : PA X es t) : PE X (.Tuple es x1 pos) (tTupZ t) := ⟨fun pins s σ H Q I hq => by
  refine wpAny_Tuple_spliced (thn (h.run pos pins s σ H _ I hq) ?_)
  intro us s1 ⟨xs, H1, I1, r, z, q⟩
  exact ⟨r.length ▸ z, endZ (tk := s1.toks) I1 r rfl z q⟩⟩
def rCatZ (K : PySem.W.Frag) : R2 := fun x y H Q => ∃ a b xs ys, x = .ref a ∧ y = .ref b ∧ SqT K H a xs ∧ SqT K H b ys ∧ xs.length + ys.length ≤ sizeLine ∧
  (xs = [] → Q (.ref b) H) ∧ (xs ≠ [] → ys = [] → Q (.ref a) H) ∧ (xs ≠ [] → ys ≠ [] → NewZ H (xs ++ ys) Q)
theorem op_catZ : OpR X (binaryOp .Add) (rCatZ X.K) := by
  rintro pins s σ H _ _ v u Q I rx ry ⟨l, m, xs, ys, rfl, rfl, hl, hm, hz, q0, q1, q2⟩
  cases rx
  cases ry
  obtain ⟨us, r1, p1, _⟩ := I.tuple hl
  obtain ⟨ws, r2, p2, _⟩ := I.tuple hm
  by_cases hx : xs = []
  · subst hx
    cases r1
    exact cat_tup0 p1 p2 ⟨.ref m, H, I, rfl, q0 rfl⟩
  · refine HT.cat_tup p1 p2 (mt r1.nil_iff.mp hx) (fun z => ⟨.ref l, H, I, rfl, q1 hx (r2.nil_iff.mp z)⟩) (fun z => ?_) (by rw [← r1.length, ← r2.length]; exact hz)
    exact endZ (tk := s.toks) I (r1.append r2) rfl (by simpa using hz) (q2 hx (mt r2.nil_iff.mpr z))
def rSlZ (K : PySem.W.Frag) : V → Option Int → Option Int → Hp → VK → Prop := fun x lo hi H Q => ∃ a xs, x = .ref a ∧ SqT K H a xs ∧
  (HT.sIx xs.length 0 lo = 0 ∧ HT.sIx xs.length xs.length hi = xs.length → Q (.ref a) H) ∧ (¬ (HT.sIx xs.length 0 lo = 0 ∧ HT.sIx xs.length xs.length hi = xs.length) → NewZ H (cutV xs lo hi) Q)
theorem sl_tupZ : SlR X (rSlZ X.K) := by
  rintro pins s σ H _ v vl vu lo hi sl Q I rx hs pl pu ⟨l, xs, rfl, hl, q1, q2⟩
  cases rx
  obtain ⟨us, r, ht, hz⟩ := I.tuple hl
  have hn : us.toArray.size = xs.length := by rw [List.size_toArray, ← r.length]
  refine ⟨"tuple", _, PyProof.Rows.slot_tuple_getitem.lookup, ht.typeIs, ?_⟩
  by_cases hw : HT.sIx xs.length 0 lo = 0 ∧ HT.sIx xs.length xs.length hi = xs.length
  · exact getItem_tuple_whole ht hs pl pu (hn ▸ hw) ⟨.ref l, H, I, rfl, q1 hw⟩
  · refine HT.getItem_tuple_cut ht hs pl pu (hn ▸ hw) ?_ (hn ▸ hz)
    rw [hn]
    exact endZ (tk := s.toks) I ((r.drop _).take _) rfl (Nat.le_trans (cutV_length xs lo hi) hz) (q2 hw)
/-- tuple(..) of a list or a tuple -/
def kTupZ (K : PySem.W.Frag) (x : V) (H : Hp) (Q : VK) : Prop := (∃ p xs, x = .ref p ∧ SqL K H p xs ∧ NewZ H xs Q) ∨ (∃ p xs, x = .ref p ∧ SqT K H p xs ∧ Q (.ref p) H)
theorem rl_tupleZ (pins : List (Addr × Obj)) (s : Shared) (σ : L2.St) (H : Hp) (x : V) (v : Value) (Q : VK) (I : Inv X pins σ H s) (r : RelV x v) (h : kTupZ X.K x H Q) :
    wpAny (model X.prog X.w) X.A (call (.type "tuple") [v]) (EP X pins σ Q) X.xe s := by
  rcases h with ⟨l, xs, rfl, hs, q⟩ | ⟨l, xs, rfl, hs, q⟩
  · cases r
    obtain ⟨us, rv, pl, hz⟩ := I.list hs
    refine call_tuple_list pl.isList (fun h' hk => ?_) (by rw [List.size_toArray, ← rv.length]; exact hz)
    exact endZ (tk := s.toks) (s := { s with heap := h' }) (I.kept (t' := s.toks) hk) rv rfl hz q
  · cases r
    obtain ⟨us, rv, pl, hz⟩ := I.tuple hs
    exact call_tuple_tup pl ⟨.ref l, H, I, rfl, q⟩
theorem pe_tupleZ {p : Pos} (hg : Gl X "tuple") (hm : X.mg "tuple" = none) (ha : PE X a ta) (na : starEach [a] X.env = (false, eval a X.env) :: starEach [] X.env := by rfl) :
    PE X (.Call (.Name "tuple" p) [a] [] pos) (tThen ta (kTupZ X.K)) := ⟨fun pins s σ H Q I h =>
  Call_ (ld_blt I hg hm boot_tuple (PyProof.Rows.callWith_type1 (one_arg ha I h (fun v s2 x H2 I2 r q => rl_tupleZ pins s2 σ H2 x v Q I2 r q) na) na))⟩
/-- xs * k, k from 2 on -/
def rRepZ (K : PySem.W.Frag) : R2 := fun x y H Q => ∃ l k xs, x = .ref l ∧ y = .int k ∧ SqT K H l xs ∧ xs ≠ [] ∧ 2 ≤ k ∧ k ≤ 1000 ∧ xs.length ≤ 1000 ∧ NewZ H (List.replicate k.toNat xs).flatten Q
theorem op_repZ : OpR X (binaryOp .Mult) (rRepZ X.K) := by
  rintro pins s σ H _ _ v u Q I rx ry ⟨l, k, xs, rfl, rfl, hT, hne, h1, h2, hz, q⟩
  cases rx
  obtain ⟨t, rfl⟩ := ry
  obtain ⟨us, r, ⟨⟨cls, dd, data, sl⟩, ho, hc, n, hd⟩, _⟩ := I.tuple hT
  simp only at hc hd
  subst hc hd
  have hl : us.toArray.size = xs.length := by rw [List.size_toArray, ← r.length]
  have e0 : us.toArray.isEmpty = false := by
    cases us with
    | nil => exact absurd (r.nil_iff.mp rfl) hne
    | cons _ _ => rfl
  have big : k.toNat * xs.length ≤ 1000 * 1000 := Nat.mul_le_mul (by omega) hz
  have bigI : ((us.toArray.size : Nat) : Int) * k ≤ 1000000 := by
    have z : ((xs.length * k.toNat : Nat) : Int) ≤ 1000000 := by rw [Nat.mul_comm]; omega
    rw [hl]
    rw [Int.natCast_mul, Int.toNat_of_nonneg (by omega)] at z
    exact z
  have fl : (List.replicate k.toNat us).flatten.length ≤ sizeLine := by
    rw [PyProof.Rows.lm_len_rep_flat, ← r.length, sizeLine_eq]
    omega
  have c0 : (decide (k < -(2 ^ 63)) || decide (k ≥ 2 ^ 63)) = false := by
    rw [Bool.or_eq_false_iff]
    exact ⟨decide_eq_false (by omega), decide_eq_false (by omega)⟩
  have c1 : (us.toArray.isEmpty || k == 1) = false := by rw [e0, Bool.false_or, beq_eq_false_iff_ne]; omega
  have c2 : (decide (k ≤ 0) || us.toArray.isEmpty) = false := by rw [e0, Bool.or_false]; exact decide_eq_false (by omega)
  have c4 : Builtin.Tuple.tupleTooMany (((us.toArray.size : Nat) : Int) * k) = false := decide_eq_false (by rw [sizeLine_eq]; omega)
  refine wpAny_binaryOp_repeat_ref (T := "tuple") (U := "int") (by decide) ⟨_, ho, rfl⟩ (fun _ => typeIs_int _ k t) noFill_tuple_mul F.fills_int_mul F.slot_int_rmul repeat_tuple F.slot_int_index.lookup ?_
  refine call_meets F.slot_int_rmul (typeIs_int s k t) F.entry_int_rmul (F.args_int_rmul_2 _ _) (int_rmul_tuple k t l us.toArray n dd sl) ⟨ho, rfl, ⟨_, ho, rfl⟩, ?_⟩
  refine call_meets F.slot_tuple_mul ⟨_, ho, rfl⟩ F.entry_tuple_mul (F.args_tuple_mul_2 _ _) (tuple_mulW l us.toArray n dd sl k t c0 c1 c2 (by omega) c4 ?_) ⟨ho, ?_⟩
  · rw [size_rep, List.size_toArray]
    exact fl
  · rw [size_rep]
    exact endZ (tk := s.toks) I (r.rep k.toNat) rfl (by rw [PyProof.Rows.lm_len_rep_flat, sizeLine_eq]; omega) q
end
/-- a dict whose keys are tuples of whole numbers and texts: the keys, where they stand, the values -/
abbrev DicE (P : Program) (w : World) (a : Addr) (xs : List (List Key × Addr × Value)) : HO := .ext fun h => ((a == sysModules) = false ∧ xs.length ≤ sizeLine) ∧
  ∃ o es ep, h.get? a = some o ∧ o.ExactDict ∧ o.data = .dict es ep ∧ es.toList = xs.map (entryOfKey (tupleKind (mixKind P w))) ∧ (xs.map (·.1)).Nodup
end DL

namespace DL
open PySem PySem.Spec PyProof.Rows L2
open Evl (Ex)

/-- a list that stays as it is: tracked, known, or written at the top -/
def RdL (K : PySem.W.Frag) (F : Hp) (a : Addr) (xs : List V) : Prop :=
  Rd F a (.lst xs) ∨ ∃ (its : List Value) (n : Nat), K.lookup a = some { cls := .type "list", data := .seq its.toArray n } ∧ Vals xs its ∧ its.length ≤ sizeLine
theorem RdL.mono {K : PySem.W.Frag} {F F' : Hp} {a : Addr} {xs : List V} (e : Ex F F') (h : RdL K F a xs) : RdL K F' a xs := h.imp (Evl.ex_rd e) id
theorem RdL.of {K : PySem.W.Frag} {F : Hp} {a : Addr} {xs : List V} (h : F a = some (.lst xs)) : RdL K F a xs := .inl (.inl h)
theorem RdL.sq {K : PySem.W.Frag} {F : Hp} {a : Addr} {xs : List V} (h : RdL K F a xs) : SqL K F a xs := by
  rcases h with h | ⟨its, n, h1, h2, h3⟩
  · exact .inl h
  · exact .inr ⟨_, its.toArray, n, h1, rfl, rfl, rfl, by simpa using h3, by simpa using h2⟩
theorem RdL.obj {X : Cx} {pins : List (Addr × Obj)} {σ : L2.St} {H : Hp} {s : Shared} {a : Addr} {xs : List V} (h : RdL X.K H a xs) (I : Inv X pins σ H s) : xs.length ≤ sizeLine ∧ ∃ (its : List Value) (n : Nat), Vals xs its ∧ s.heap.get? a = some { cls := .type "list", data := .seq its.toArray n } := by
  rcases h with h | ⟨its, n, h1, h2, h3⟩
  · exact h.ok I.hok
  · exact ⟨by rw [h2.length]; exact h3, its, n, h2, I.kIn a _ h1⟩
structure XcF (K : PySem.W.Frag) (c : Str) : Prop where
  cls : ExcC K (He.ga K c)
  made : PySem.W.excIn K (He.ga K c) exBases "ValueError.__new__" = true
  kp : PySem.W.keepIn K (.ref (He.ga K c)) = true
  ty : PySem.W.typeIn K (.ref (He.ga K c)) = some (.type "type")
  exm : PySem.W.exmOne K (.ref (He.ga K c)) (.ref (He.ga K "PrizeError")) = some true
  ve : PySem.W.kitOne K (.ref (He.ga K c)) (.type "ValueError") = some true
  six : ∀ T ∈ exTypes, PySem.W.kitOne K (.ref (He.ga K c)) (.type T) = some false
  own : ∀ d ∈ exNames, PySem.W.kitOne K (.ref (He.ga K c)) (.ref (He.ga K d)) = some (exSub c d)
theorem xcB_ok {K : PySem.W.Frag} {c : Str} (h : xcB K c = true) : XcF K c := by
  unfold xcB at h
  simp only [Bool.and_eq_true, decide_eq_true_eq, List.all_eq_true] at h
  obtain ⟨a1, a2, a3, a4, a5, a6, a7, a8, a9, b1, b2, b3, b4, b5, b6⟩ := h
  exact ⟨⟨a1, a2, a3, a4, a5, a6, a7, a8⟩, a9, b1, b2, b3, b4, b5, b6⟩
/-- an exception's object -/
def ExcAt (C a : Addr) : Heap → Prop := fun h => ∃ oe vs, h.get? a = some oe ∧ oe.cls = .ref C ∧ oe.dict = none ∧ oe.data = .fields vs ∧ vs[2]? = some .none
/-- a tuple that stays, whose object has no dict -/
def TqT (K : PySem.W.Frag) (F : Hp) (a : Addr) (xs : List V) : Prop := (∃ o, F a = some (.frz o (.tup xs)) ∧ PlT o) ∨
  ∃ (o : Obj) (its : Array Value) (n : Nat), K.lookup a = some o ∧ PlT o ∧ o.data = .seq its n ∧ its.size ≤ sizeLine ∧ Vals xs its.toList
theorem TqT.sq {K : PySem.W.Frag} {F : Hp} {a : Addr} {xs : List V} (h : TqT K F a xs) : SqT K F a xs := by
  rcases h with ⟨o, h, _⟩ | ⟨o, its, n, h1, h2, h3, h4, h5⟩
  · exact .inl (.inr ⟨o, h⟩)
  · exact .inr ⟨o, its, n, h1, h2.1, h3, h4, h5⟩
theorem TqT.mono {K : PySem.W.Frag} {F F' : Hp} {a : Addr} {xs : List V} (e : Ex F F') (h : TqT K F a xs) : TqT K F' a xs := h.imp (fun ⟨o, h, p⟩ => ⟨o, e _ _ h, p⟩) id
/-- a dict whose keys are whole numbers and texts -/
abbrev KkE (P : Program) (w : World) (a : Addr) (vs : List (Key × V)) : HO := .ext fun h => vs.length ≤ sizeLine ∧ (a == sysModules) = false ∧ ∃ us, KV vs us ∧ h.DictOf (mixKind P w) a us
/-- a list of one's own, within another one or holding such -/
abbrev LsE (a : Addr) (vs : List V) : HO := .ext fun h => vs.length ≤ sizeLine ∧ ∃ (its : List Value) (n : Nat), Vals vs its ∧ h.get? a = some { cls := .type "list", data := .seq its.toArray n }
/-- a thing that is of none of the kinds asked for -/
def IsiNo (K : PySem.W.Frag) (H : Hp) (a : Addr) : Prop := ∀ (X : Cx) (pins : List (Addr × Obj)) (s : Shared) (σ : L2.St) (T : String) (Q : VK), X.K = K → T ∈ exTypes → Inv X pins σ H s → Q (.bl false) H →
  wpAny (model X.prog X.w) X.A (call (.builtin "isinstance") [.ref a, .type T]) (EP X pins σ Q) X.xe s
/-- what an opaque thing is known by: where it stands, or the def's name -/
def Opq (K : PySem.W.Frag) (a : Addr) (d : PyData) : Prop := d = .int (a : Nat) ∨ ∃ f : Str, d = .tuple [.str f] ∧ a = He.ga K f
mutual
inductive DR (K : PySem.W.Frag) (F : Hp) : V → PyData → Prop
  | non : DR K F .non .none
  | bl (b : Bool) : DR K F (.bl b) (.bool b)
  | int (i : Int) : DR K F (.int i) (.int i)
  | str (x : Str) : DR K F (.str x) (.str x)
  | lst {a : Addr} {xs : List V} {ds : List PyData} : RdL K F a xs → DRs K F xs ds → DR K F (.ref a) (.list ds)
  | tup {a : Addr} {xs : List V} {ds : List PyData} : TqT K F a xs → DRs K F xs ds → DR K F (.ref a) (.tuple ds)
  /-- a dict that stays, its keys whole numbers and texts -/
  | dct {a : Addr} {o : Obj} {vs : List (Key × V)} {ds : List (PyData × PyData)} : F a = some (.frz o (.dK vs)) → DM K F vs ds → DR K F (.ref a) (.dict ds)
  /-- a list that a def made and may still change -/
  | row {a : Addr} {xs : List V} {ds : List PyData} : F a = some (.lst xs) → DRs K F xs ds → DR K F (.ref a) (.dict [(.none, .list ds)])
  /-- a caught refusal of the class c -/
  | exc {a : Addr} {c : Str} : F a = some (.ext (ExcAt (He.ga K c) a)) → XcF K c → DR K F (.ref a) (.dict [(.none, .str c)])
  /-- a def, or a thing known by its place alone -/
  | opq {a : Addr} {d : PyData} : (∀ F', Ex F F' → IsiNo K F' a) → Opq K a d → DR K F (.ref a) (.dict [(.none, d)])
inductive DRs (K : PySem.W.Frag) (F : Hp) : List V → List PyData → Prop
  | nil : DRs K F [] []
  | cons {v : V} {vs : List V} {d : PyData} {ds : List PyData} : DR K F v d → DRs K F vs ds → DRs K F (v :: vs) (d :: ds)
inductive DM (K : PySem.W.Frag) (F : Hp) : List (Key × V) → List (PyData × PyData) → Prop
  | nil : DM K F [] []
  | int {n : Int} {v : V} {vs : List (Key × V)} {d : PyData} {ds : List (PyData × PyData)} : DR K F v d → DM K F vs ds → DM K F ((.inl n, v) :: vs) ((.int n, d) :: ds)
  | str {x : Str} {v : V} {vs : List (Key × V)} {d : PyData} {ds : List (PyData × PyData)} : DR K F v d → DM K F vs ds → DM K F ((.inr x, v) :: vs) ((.str x, d) :: ds)
end

section
variable {K : PySem.W.Frag} {F F' H H' : Hp}
mutual
theorem DR.mono (e : Ex F F') : ∀ {v : V} {d : PyData}, DR K F v d → DR K F' v d
  | _, _, .non => .non
  | _, _, .bl b => .bl b
  | _, _, .int i => .int i
  | _, _, .str x => .str x
  | _, _, .lst h r => .lst (h.mono e) (DRs.mono e r)
  | _, _, .tup h r => .tup (h.mono e) (DRs.mono e r)
  | _, _, .dct h m => .dct (e _ _ h) (DM.mono e m)
  | _, _, .row h r => .row (e _ _ h) (DRs.mono e r)
  | _, _, .exc h x => .exc (e _ _ h) x
  | _, _, .opq h x => .opq (fun F2 e2 => h F2 (e.trans e2)) x
theorem DRs.mono (e : Ex F F') : ∀ {v : List V} {d : List PyData}, DRs K F v d → DRs K F' v d
  | _, _, .nil => .nil
  | _, _, .cons a b => .cons (DR.mono e a) (DRs.mono e b)
theorem DM.mono (e : Ex F F') : ∀ {vs : List (Key × V)} {ds : List (PyData × PyData)}, DM K F vs ds → DM K F' vs ds
  | _, _, .nil => .nil
  | _, _, .int a b => .int (DR.mono e a) (DM.mono e b)
  | _, _, .str a b => .str (DR.mono e a) (DM.mono e b)
end
theorem DM.length : ∀ {vs : List (Key × V)} {ds : List (PyData × PyData)}, DM K F vs ds → vs.length = ds.length
  | _, _, .nil => rfl
  | _, _, .int _ b => congrArg (· + 1) b.length
  | _, _, .str _ b => congrArg (· + 1) b.length
theorem DRs.length : ∀ {vs : List V} {ds : List PyData}, DRs K F vs ds → vs.length = ds.length
  | _, _, .nil => rfl
  | _, _, .cons _ b => congrArg (· + 1) b.length
theorem DRs.get : ∀ {vs : List V} {ds : List PyData} {i : Nat} {d : PyData}, DRs K F vs ds → ds[i]? = some d → ∃ v, vs[i]? = some v ∧ DR K F v d
  | _, _, _, _, .nil, h => by simp at h
  | _, _, 0, _, .cons a b, h => by simp at h; subst h; exact ⟨_, rfl, a⟩
  | _, _, i + 1, d, .cons a b, h => by
    obtain ⟨v, h1, h2⟩ := b.get (i := i) (d := d) (by simpa using h)
    exact ⟨v, by simpa using h1, h2⟩
theorem DRs.append : ∀ {vs ws : List V} {ds es : List PyData}, DRs K F vs ds → DRs K F ws es → DRs K F (vs ++ ws) (ds ++ es)
  | _, _, _, _, .nil, h => h
  | _, _, _, _, .cons a b, h => .cons a (b.append h)
theorem DRs.take : ∀ {vs : List V} {ds : List PyData} (n : Nat), DRs K F vs ds → DRs K F (vs.take n) (ds.take n)
  | _, _, 0, _ => .nil
  | _, _, _ + 1, .nil => .nil
  | _, _, n + 1, .cons a b => .cons a (b.take n)
theorem DRs.drop : ∀ {vs : List V} {ds : List PyData} (n : Nat), DRs K F vs ds → DRs K F (vs.drop n) (ds.drop n)
  | _, _, 0, h => h
  | _, _, _ + 1, .nil => .nil
  | _, _, n + 1, .cons a b => b.drop n
theorem DRs.set : ∀ {vs : List V} {ds : List PyData} (n : Nat) {v : V} {d : PyData}, DR K F v d → DRs K F vs ds → DRs K F (vs.set n v) (ds.set n d)
  | _, _, _, _, _, _, .nil => .nil
  | _, _, 0, _, _, h, .cons a b => .cons h b
  | _, _, n + 1, _, _, h, .cons a b => .cons a (b.set n h)
theorem DRs.one {v : V} {d : PyData} (h : DR K F v d) : DRs K F [v] [d] := .cons h .nil
theorem DRs.inv1 {vs : List V} {d : PyData} (h : DRs K F vs [d]) : ∃ v, vs = [v] ∧ DR K F v d := by
  cases h with
  | cons a b => cases b; exact ⟨_, rfl, a⟩
theorem DRs.inv2 {vs : List V} {d e : PyData} (h : DRs K F vs [d, e]) : ∃ v w, vs = [v, w] ∧ DR K F v d ∧ DR K F w e := by
  cases h with
  | cons a b =>
    obtain ⟨w, rfl, r⟩ := b.inv1
    exact ⟨_, w, rfl, a, r⟩
theorem DR.inv_int {v : V} {i : Int} (h : DR K F v (.int i)) : v = .int i := by cases h; rfl
theorem DR.inv_bool {v : V} {i : Bool} (h : DR K F v (.bool i)) : v = .bl i := by cases h; rfl
theorem DR.inv_str {v : V} {i : Str} (h : DR K F v (.str i)) : v = .str i := by cases h; rfl
theorem DR.inv_tupZ {v : V} {ds : List PyData} (h : DR K F v (.tuple ds)) : ∃ a xs, v = .ref a ∧ TqT K F a xs ∧ DRs K F xs ds := by cases h with | tup a b => exact ⟨_, _, rfl, a, b⟩
theorem DR.inv_tup {v : V} {ds : List PyData} (h : DR K F v (.tuple ds)) : ∃ a xs, v = .ref a ∧ SqT K F a xs ∧ DRs K F xs ds := by cases h with | tup a b => exact ⟨_, _, rfl, a.sq, b⟩
theorem DR.inv_lst {v : V} {ds : List PyData} (h : DR K F v (.list ds)) : ∃ a xs, v = .ref a ∧ RdL K F a xs ∧ DRs K F xs ds := by cases h with | lst a b => exact ⟨_, _, rfl, a, b⟩
end

/-- things of one's own: dicts whose keys are tuples of whole numbers and texts; whose keys are whole numbers and texts; lists of lists -/
inductive Own where
  | tk (kvs : List (List Key × PyData))
  | kk (kvs : List (PyData × PyData))
  | mt (rows : List (List PyData))
inductive SD where
  | un
  | dat (d : PyData)
  | cel (p : Bool) (xs : List PyData)
  /-- a thing of one's own -/
  | dic (w : Own)
/-- what is fixed for a def's whole run -/
structure Zx (T : List (Addr × Str)) where
  F0 : Hp
  H0 : Hp
  A0 : Nat → Option Addr
  Pr0 : Hp
  P : Program
  w : World
structure Gx (Z : Zx T) where
  Pr : Hp
  px : Ex Z.Pr0 Pr
  pl : ∀ a o, Pr a = some o → ∀ ps, o ≠ .tbl ps
variable {T : List (PySem.Addr × PySem.Str)} {Z : Zx T}
def Gx.hid (g : Gx Z) (D : Addr) (vs : List V) (h : g.Pr D = none) : Gx Z := ⟨upd g.Pr D (.lst vs), fun a o e => by
  have q := g.px a o e
  have ne : a ≠ D := fun z => by rw [z, h] at q; cases q
  rw [upd_ne ne]
  exact q, fun a o e => by
  by_cases z : a = D
  · subst z
    rw [upd_same] at e
    cases e
    exact fun _ y => by cases y
  · rw [upd_ne z] at e
    exact g.pl a o e⟩
abbrev Gx.F0 (_ : Gx Z) : Hp := Z.F0
abbrev Gx.H0 (_ : Gx Z) : Hp := Z.H0
abbrev Gx.A0 (_ : Gx Z) : Nat → Option Addr := Z.A0
/-- the dict's keys and values as they stand -/
def DicR (K : PySem.W.Frag) (F : Hp) (kvs : List (List Key × PyData)) (xs : List (List Key × Addr × Value)) : Prop :=
  Paired (fun p x => p.1 = x.1 ∧ TqT K F x.2.1 (p.1.map kV) ∧ ∃ v, DR K F v p.2 ∧ RelV v x.2.2) kvs xs
theorem DicR.mono {K : PySem.W.Frag} {F F' : Hp} (e : Ex F F') {kvs : List (List Key × PyData)} {xs : List (List Key × Addr × Value)} (h : DicR K F kvs xs) : DicR K F' kvs xs :=
  Paired.mapP h fun _ _ ⟨h1, h2, v, h3, h4⟩ => ⟨h1, h2.mono e, v, h3.mono e, h4⟩
/-- what stands for such a thing at a, with further places bs -/
def OwnR (K : PySem.W.Frag) (Z : Zx T) (F H : Hp) (a : Addr) (bs : List Addr) : Own → Prop
  | .tk kvs => bs = [] ∧ ∃ xs, H a = some (DicE Z.P Z.w a xs) ∧ DicR K F kvs xs
  | .kk ds => bs = [] ∧ ∃ vs, H a = some (KkE Z.P Z.w a vs) ∧ DM K F vs ds
  | .mt rows => (H a = some (LsE a (bs.map .ref)) ∧ (a :: bs).Nodup) ∧ Paired (fun b row => ∃ us, H b = some (LsE b us) ∧ DRs K F us row) bs rows
structure OwnAt (K : PySem.W.Frag) (g : Gx Z) (F H : Hp) (a : Addr) (bs : List Addr) (w : Own) : Prop where
  rel : OwnR K Z F H a bs w
  out : ∀ x ∈ a :: bs, F x = none ∧ g.H0 x = none ∧ g.Pr x = none ∧ ∃ φ, H x = some (.ext φ)
structure DicsB (K : PySem.W.Frag) (g : Gx Z) (F : Hp) (env : List SD) (σ : L2.St) (H : Hp) (B : Nat → List Addr) : Prop where
  at_ : ∀ (i : Nat) (w : Own), env[i]? = some (.dic w) → ∃ a, σ[i]? = some (some (.ref a)) ∧ OwnAt K g F H a (B i) w
  sep : ∀ (i j : Nat) (w w' : Own) (a b : Addr), env[i]? = some (.dic w) → env[j]? = some (.dic w') → σ[i]? = some (some (.ref a)) → σ[j]? = some (some (.ref b)) → i ≠ j → ∀ x ∈ a :: B i, x ∉ b :: B j
def DicsOk (K : PySem.W.Frag) (g : Gx Z) (F : Hp) (env : List SD) (σ : L2.St) (H : Hp) : Prop := ∃ B, DicsB K g F env σ H B
section
variable {K : PySem.W.Frag} {g g' : Gx Z} {F F' : Hp} {env : List SD} {σ : L2.St} {H H' : Hp}
theorem OwnR.keep {a : Addr} {bs : List Addr} {w : Own} (r : OwnR K Z F H a bs w) (e : Ex F F') (hk : ∀ x ∈ a :: bs, H' x = H x) : OwnR K Z F' H' a bs w := by
  cases w with
  | tk kvs =>
    obtain ⟨rfl, xs, h1, h2⟩ := r
    exact ⟨rfl, xs, (hk a List.mem_cons_self).trans h1, h2.mono e⟩
  | kk ds =>
    obtain ⟨rfl, xs, h1, h2⟩ := r
    exact ⟨rfl, xs, (hk a List.mem_cons_self).trans h1, h2.mono e⟩
  | mt rows =>
    obtain ⟨⟨h1, h2⟩, h3⟩ := r
    refine ⟨⟨(hk a List.mem_cons_self).trans h1, h2⟩, ?_⟩
    have hk2 : ∀ x ∈ bs, H' x = H x := fun x hx => hk x (List.mem_cons_of_mem _ hx)
    clear h1 h2 hk
    induction h3 with
    | nil => exact .nil
    | cons h t ih =>
      obtain ⟨us, z1, z2⟩ := h
      exact .cons ⟨us, (hk2 _ List.mem_cons_self).trans z1, z2.mono e⟩ (ih fun x hx => hk2 x (List.mem_cons_of_mem _ hx))
theorem OwnAt.keep {a : Addr} {bs : List Addr} {w : Own} (r : OwnAt K g F H a bs w) (e : Ex F F') (hp : ∀ x φ, H x = some (.ext φ) → g.Pr x = none → g'.Pr x = none) (hk : ∀ x φ, H x = some (.ext φ) → F x = none → F' x = none ∧ H' x = H x) : OwnAt K g' F' H' a bs w where
  rel := r.rel.keep e fun x hx => by
    obtain ⟨z1, _, _, φ, z4⟩ := r.out x hx
    exact (hk x φ z4 z1).2
  out := fun x hx => by
    obtain ⟨z1, z2, z3, φ, z4⟩ := r.out x hx
    obtain ⟨y1, y2⟩ := hk x φ z4 z1
    exact ⟨y1, z2, hp x φ z4 z3, φ, y2.trans z4⟩
theorem DicsB.keep {B : Nat → List Addr} (d : DicsB K g F env σ H B) (e : Ex F F') (hp : ∀ x φ, H x = some (.ext φ) → g.Pr x = none → g'.Pr x = none) (hk : ∀ x φ, H x = some (.ext φ) → F x = none → F' x = none ∧ H' x = H x) : DicsB K g' F' env σ H' B :=
  ⟨fun i w hw => let ⟨a, z1, z2⟩ := d.at_ i w hw; ⟨a, z1, z2.keep e hp hk⟩, d.sep⟩
theorem DicsOk.keep (d : DicsOk K g F env σ H) (e : Ex F F') (hp : ∀ x φ, H x = some (.ext φ) → g.Pr x = none → g'.Pr x = none) (hk : ∀ x φ, H x = some (.ext φ) → F x = none → F' x = none ∧ H' x = H x) : DicsOk K g' F' env σ H' := by
  obtain ⟨B, h⟩ := d
  exact ⟨B, h.keep e hp hk⟩
/-- no thing of one's own stands here -/
theorem DicsB.there {B : Nat → List Addr} (d : DicsB K g F env σ H B) {j : Nat} {w : Own} {b x : Addr} (h1 : env[j]? = some (.dic w)) (h2 : σ[j]? = some (some (.ref b))) (hx : x ∈ b :: B j) : F x = none ∧ g.H0 x = none ∧ g.Pr x = none ∧ ∃ φ, H x = some (.ext φ) := by
  obtain ⟨a, z1, z2⟩ := d.at_ j w h1
  rw [h2] at z1
  cases z1
  exact z2.out x hx
theorem DicsOk.none (h : ∀ (i : Nat) (w : Own), env[i]? ≠ some (.dic w)) : DicsOk K g F env σ H := ⟨fun _ => [], fun i w e => absurd e (h i w), fun i _ w _ _ _ e => absurd e (h i w)⟩
theorem DicsOk.setE (d : DicsOk K g F env σ H) {i : Nat} {x : SD} (hx : ∀ w, x ≠ .dic w) : DicsOk K g F (env.set i x) σ H := by
  have old : ∀ {j : Nat} {w : Own}, (env.set i x)[j]? = some (.dic w) → env[j]? = some (.dic w) := fun {j w} h => by
    rw [List.getElem?_set] at h
    by_cases e : i = j
    · rw [if_pos e] at h
      split at h
      · exact absurd (Option.some.inj h) (hx w)
      · cases h
    · rwa [if_neg e] at h
  obtain ⟨B, h1, h2⟩ := d
  exact ⟨B, fun j w h => h1 j w (old h), fun j l w w' a b e1 e2 => h2 j l w w' a b (old e1) (old e2)⟩
theorem DicsOk.set (d : DicsOk K g F env σ H) {i : Nat} {x : SD} {v : Option V} (hx : ∀ w, x ≠ .dic w) : DicsOk K g F (env.set i x) (σ.set i v) H := by
  have ne : ∀ {j : Nat} {w : Own}, (env.set i x)[j]? = some (.dic w) → i ≠ j := fun {j w} h e => by
    rw [List.getElem?_set, if_pos e] at h
    split at h
    · exact absurd (Option.some.inj h) (hx w)
    · cases h
  have st : ∀ {j : Nat}, i ≠ j → (σ.set i v)[j]? = σ[j]? := fun n => List.getElem?_set_ne n
  obtain ⟨B, h1, h2⟩ := d.setE (i := i) hx
  exact ⟨B, fun j w h => let ⟨a, z1, z2⟩ := h1 j w h; ⟨a, by rw [st (ne h)]; exact z1, z2⟩, fun j l w w' a b e1 e2 e3 e4 => h2 j l w w' a b e1 e2 (by rw [← st (ne e1)]; exact e3) (by rw [← st (ne e2)]; exact e4)⟩
end
/-- an object that was there: as it was, or a table with more in it -/
def Sty (o : HO) (x : Option HO) : Prop := x = some o ∨ ∃ ps more, o = .tbl ps ∧ x = some (.tbl (ps ++ more))
theorem Sty.same {o : HO} {x : Option HO} (h : Sty o x) (n : ∀ ps, o ≠ .tbl ps) : x = some o := by
  rcases h with h | ⟨ps, _, e, _⟩
  · exact h
  · exact absurd e (n ps)
theorem Sty.lst {vs : List V} {x : Option HO} (h : Sty (.lst vs) x) : x = some (.lst vs) := h.same fun _ z => by cases z
theorem Sty.ext {f : Heap → Prop} {x : Option HO} (h : Sty (.ext f) x) : x = some (.ext f) := h.same fun _ z => by cases z
theorem Sty.there {o : HO} {x : Option HO} (h : Sty o x) : ∃ u, x = some u := by
  rcases h with h | ⟨ps, m, _, h⟩
  · exact ⟨_, h⟩
  · exact ⟨_, h⟩
theorem Sty.trans {o : HO} {x y : Option HO} (h : Sty o x) (k : ∀ u, x = some u → Sty u y) : Sty o y := by
  rcases h with h | ⟨ps, m, e, h⟩
  · exact k _ h
  · rcases k _ h with z | ⟨ps', m', e', z⟩
    · exact .inr ⟨ps, m, e, z⟩
    · cases e'
      exact .inr ⟨ps, m ++ m', e, by rw [z, Array.append_assoc]⟩
/-- what was there stays, but where N says no; the tables are right -/
structure Frm (T : List (Addr × Str)) (H0 : Hp) (N : Addr → Prop) (H : Hp) : Prop where
  stay : ∀ a o, H0 a = some o → N a → Sty o (H a)
  tab : LamX.Tabs T H
section
variable {H0 H H' : Hp} {N N' : Addr → Prop}
theorem Frm.new (f : Frm T H0 N H) {p : Addr} {o : HO} (h : H p = none) : Frm T H0 N (upd H p o) where
  stay := fun a u e n => by
    have z := f.stay a u e n
    obtain ⟨w, hw⟩ := z.there
    rw [upd_ne (ne_of_none hw h)]
    exact z
  tab := f.tab.ext fun b u e => by rw [upd_ne (ne_of_none e h)]; exact e
theorem codeO_lst {c : Addr} {q : Str} {vs : List V} : LamX.CodeO c q ≠ .lst vs := fun z => by
  unfold LamX.CodeO at z
  cases z
theorem Frm.putO (f : Frm T H0 N H) {a : Addr} {o0 o1 : HO} (h : H a = some o0) (t1 : ∀ ps, o0 ≠ .tbl ps) (t2 : ∀ q, o0 ≠ LamX.CodeO a q) (n : ∀ o, H0 a = some o → ¬ N a) : Frm T H0 N (upd H a o1) where
  stay := fun b u e m => by
    have ne : b ≠ a := fun z => by
      subst z
      exact n u e m
    rw [upd_ne ne]
    exact f.stay b u e m
  tab := fun p hp => by
    obtain ⟨ps, h1, h2, h3⟩ := f.tab p hp
    have n1 : p.1 ≠ a := fun z => by rw [z, h] at h1; exact t1 _ (Option.some.inj h1)
    refine ⟨ps, by rw [upd_ne n1]; exact h1, h2, fun pos cv hc => ?_⟩
    obtain ⟨c, e, e2⟩ := h3 pos cv hc
    have n2 : c ≠ a := fun z => by rw [z, h] at e2; exact t2 _ (Option.some.inj e2)
    exact ⟨c, e, by rw [upd_ne n2]; exact e2⟩
theorem Frm.put (f : Frm T H0 N H) {a : Addr} {vs ys : List V} (h : H a = some (.lst vs)) (n : ∀ o, H0 a = some o → ¬ N a) : Frm T H0 N (upd H a (.lst ys)) := f.putO h (fun _ z => by cases z) (fun _ z => codeO_lst z.symm) n
theorem Frm.trans (f : Frm T H0 N H) (g : Frm T H N' H') (n : ∀ a o, H0 a = some o → N a → N' a) : Frm T H0 N H' :=
  ⟨fun a o e m => (f.stay a o e m).trans fun u hu => g.stay a u hu (n a o e m), g.tab⟩
theorem Frm.refl (t : LamX.Tabs T H) : Frm T H N H := ⟨fun _ _ e _ => .inl e, t⟩
theorem Frm.weak (f : Frm T H0 N H) (n : ∀ a o, H0 a = some o → N' a → N a) : Frm T H0 N' H := ⟨fun a o e m => f.stay a o e (n a o e m), f.tab⟩
end
/-- what never changes has grown; no table is among it -/
def OldF (F0 F : Hp) : Prop := Ex F0 F ∧ ∀ a ps, F a ≠ some (.tbl ps)
theorem OldF.new {F0 F : Hp} (h : OldF F0 F) {p : Addr} {o : HO} (hp : F p = none) (ho : ∀ ps, o ≠ .tbl ps) : OldF F0 (upd F p o) :=
  ⟨h.1.trans (Ex.new hp), fun a ps e => by
    by_cases z : a = p
    · subst z
      rw [upd_same] at e
      exact ho ps (Option.some.inj e)
    · rw [upd_ne z] at e
      exact h.2 a ps e⟩
structure Ok (K : PySem.W.Frag) (g : Gx Z) (F : Hp) (env : List SD) (σ : L2.St) (H : Hp) : Prop where
  len : env.length = σ.length
  fh : Ex F H
  dat : ∀ (i : Nat) (d : PyData), env[i]? = some (.dat d) → ∃ v, σ[i]? = some (some v) ∧ DR K F v d
  cel : ∀ (i : Nat) (p : Bool) (xs : List PyData), env[i]? = some (.cel p xs) → ∃ a vs, σ[i]? = some (some (.ref a)) ∧ F a = none ∧ H a = some (.lst vs) ∧ DRs K F vs xs ∧ (p = true → g.A0 i = some a) ∧ (p = false → g.H0 a = none)
  sep : ∀ (i j : Nat) (p q : Bool) (xs ys : List PyData) (a : Addr), env[i]? = some (.cel p xs) → env[j]? = some (.cel q ys) → σ[i]? = some (some (.ref a)) → σ[j]? = some (some (.ref a)) → i = j
  pin : ∀ (i : Nat) (a : Addr), g.A0 i = some a → ∃ xs, env[i]? = some (.cel true xs)
  frame : Frm T g.H0 (fun a => ∀ i, g.A0 i ≠ some a) H
  newF : ∀ (a : Addr) (o : HO), F a = some o → g.F0 a = some o ∨ g.H0 a = none
  oldF : OldF g.F0 F
  prot : ∀ (a : Addr) (o : HO), g.Pr a = some o → H a = some o ∧ F a = none ∧ ∀ (j : Nat) (p : Bool) (ys : List PyData), env[j]? = some (.cel p ys) → σ[j]? ≠ some (some (.ref a))
  dic : DicsOk K g F env σ H
section
variable {K : PySem.W.Frag} {g : Gx Z} {F F' : Hp} {env : List SD} {σ : L2.St} {H : Hp}

theorem Ok.fresh0 (k : Ok K g F env σ H) {p : Addr} (h : H p = none) : g.H0 p = none := by
  cases e : g.H0 p with
  | none => rfl
  | some o =>
    by_cases q : ∃ i, g.A0 i = some p
    · obtain ⟨i, hi⟩ := q
      obtain ⟨xs, hx⟩ := k.pin i p hi
      obtain ⟨a, vs, _, _, h2, _, h3, _⟩ := k.cel i true xs hx
      have h3 := h3 rfl
      rw [hi] at h3
      cases h3
      rw [h] at h2
      cases h2
    · obtain ⟨u, z⟩ := (k.frame.stay p o e fun i hi => q ⟨i, hi⟩).there
      rw [h] at z
      cases z
theorem fnone (e : Ex F H) {p : Addr} (h : H p = none) : F p = none := by
  cases q : F p with
  | none => rfl
  | some o =>
    rw [e p o q] at h
    cases h
theorem ex_both (e : Ex F H) {p : Addr} {o : HO} (h : H p = none) : Ex (upd F p o) (upd H p o) := fun b u q => by
  by_cases hb : b = p
  · subst hb
    rw [upd_same] at q ⊢
    exact q
  · rw [upd_ne hb] at q ⊢
    exact e b u q
/-- a new thing that never changes -/
theorem Ok.alloc (k : Ok K g F env σ H) {p : Addr} {o : HO} (h : H p = none) (ho : ∀ ps, o ≠ .tbl ps := by intro _ z; cases z) : Ok K g (upd F p o) env σ (upd H p o) where
  len := k.len
  fh := ex_both k.fh h
  dat := fun i d e => by
    obtain ⟨v, h1, h2⟩ := k.dat i d e
    exact ⟨v, h1, h2.mono (Ex.new (fnone k.fh h))⟩
  cel := fun i q xs e => by
    obtain ⟨a, vs, h1, h2, h3, h4, h5⟩ := k.cel i q xs e
    have ne : a ≠ p := ne_of_none h3 h
    exact ⟨a, vs, h1, by rw [upd_ne ne]; exact h2, by rw [upd_ne ne]; exact h3, h4.mono (Ex.new (fnone k.fh h)), h5⟩
  sep := k.sep
  pin := k.pin
  frame := k.frame.new h
  newF := fun a u e => by
    by_cases hb : a = p
    · subst hb
      exact .inr (k.fresh0 h)
    · rw [upd_ne hb] at e
      exact k.newF a u e
  oldF := k.oldF.new (fnone k.fh h) ho
  prot := fun a u e => by
    obtain ⟨z1, z2, z3⟩ := k.prot a u e
    have ne : a ≠ p := ne_of_none z1 h
    exact ⟨by rw [upd_ne ne]; exact z1, by rw [upd_ne ne]; exact z2, z3⟩
  dic := k.dic.keep (Ex.new (fnone k.fh h)) (fun _ _ _ z => z) fun a _ h1 h2 => by
    have ne : a ≠ p := ne_of_none h1 h
    exact ⟨by rw [upd_ne ne]; exact h2, upd_ne ne⟩
/-- a new thing of no name yet -/
theorem Ok.extra (k : Ok K g F env σ H) {p : Addr} {o : HO} (h : H p = none) : Ok K g F env σ (upd H p o) where
  len := k.len
  fh := fun a u e => by
    have q := k.fh a u e
    rw [upd_ne (ne_of_none q h)]
    exact q
  dat := k.dat
  cel := fun i q xs e => by
    obtain ⟨a, vs, h1, h2, h3, h4, h5⟩ := k.cel i q xs e
    have ne : a ≠ p := ne_of_none h3 h
    exact ⟨a, vs, h1, h2, by rw [upd_ne ne]; exact h3, h4, h5⟩
  sep := k.sep
  pin := k.pin
  frame := k.frame.new h
  newF := k.newF
  oldF := k.oldF
  prot := fun a u e => by
    obtain ⟨z1, z2, z3⟩ := k.prot a u e
    have ne : a ≠ p := ne_of_none z1 h
    exact ⟨by rw [upd_ne ne]; exact z1, z2, z3⟩
  dic := k.dic.keep (Ex.refl F) (fun _ _ _ z => z) fun a xs h1 h2 => ⟨h2, upd_ne (ne_of_none h1 h)⟩
theorem get_set {α : Type} {l : List α} {i j : Nat} {x y : α} (h : (l.set i x)[j]? = some y) : (i = j ∧ y = x) ∨ (i ≠ j ∧ l[j]? = some y) := by
  rw [List.getElem?_set] at h
  by_cases e : i = j
  · rw [if_pos e] at h
    split at h
    · exact .inl ⟨e, (Option.some.inj h).symm⟩
    · cases h
  · rw [if_neg e] at h
    exact .inr ⟨e, h⟩
theorem set_ne {α : Type} {l : List α} {i j : Nat} {x : α} (h : i ≠ j) : (l.set i x)[j]? = l[j]? := List.getElem?_set_ne h
theorem set_eq {α : Type} {l : List α} {i : Nat} {x y : α} (h : l[i]? = some y) : (l.set i x)[i]? = some x := by
  obtain ⟨h1, _⟩ := List.getElem?_eq_some_iff.mp h
  exact List.getElem?_set_self h1
/-- a slot that is no parameter's cell -/
def NoPar (env : List SD) (i : Nat) : Prop := ∀ xs, env[i]? ≠ some (.cel true xs)
/-- a name gets a datum -/
theorem Ok.setD (k : Ok K g F env σ H) {i : Nat} {d : PyData} {v : V} (hp : NoPar env i) (h : DR K F v d) : Ok K g F (env.set i (.dat d)) (σ.set i (some v)) H where
  len := by simp [k.len]
  fh := k.fh
  dat := fun j e hj => by
    rcases get_set hj with ⟨rfl, q⟩ | ⟨n, q⟩
    · cases q
      have hl : i < σ.length := by
        obtain ⟨h1, _⟩ := List.getElem?_eq_some_iff.mp hj
        rw [List.length_set, k.len] at h1
        exact h1
      exact ⟨v, List.getElem?_set_self hl, h⟩
    · rw [set_ne n]
      exact k.dat j e q
  cel := fun j q xs hj => by
    rcases get_set hj with ⟨_, q⟩ | ⟨n, q⟩
    · cases q
    · rw [set_ne n]
      exact k.cel j _ xs q
  sep := fun a b p q xs ys c h1 h2 h3 h4 => by
    rcases get_set h1 with ⟨_, e⟩ | ⟨n1, e1⟩
    · cases e
    rcases get_set h2 with ⟨_, e⟩ | ⟨n2, e2⟩
    · cases e
    rw [set_ne n1] at h3
    rw [set_ne n2] at h4
    exact k.sep a b p q xs ys c e1 e2 h3 h4
  pin := fun j a e => by
    obtain ⟨xs, q⟩ := k.pin j a e
    have n : i ≠ j := fun z => by subst z; exact hp xs q
    exact ⟨xs, by rw [set_ne n]; exact q⟩
  frame := k.frame
  newF := k.newF
  oldF := k.oldF
  prot := fun a u e => by
    obtain ⟨z1, z2, z3⟩ := k.prot a u e
    refine ⟨z1, z2, fun j p ys hj => ?_⟩
    rcases get_set hj with ⟨_, q⟩ | ⟨n, q⟩
    · cases q
    · rw [set_ne n]
      exact z3 j p ys q
  dic := k.dic.set fun _ z => by cases z
/-- a name gets a new cell of its own -/
theorem Ok.setC (k : Ok K g F env σ H) {i : Nat} {xs : List PyData} {a : Addr} {vs : List V} (hp : NoPar env i) (hF : F a = none) (hH : H a = some (.lst vs)) (h : DRs K F vs xs) (h0 : g.H0 a = none) (hpr : g.Pr a = none)
    (nw : ∀ (j : Nat) (p : Bool) (ys : List PyData), env[j]? = some (.cel p ys) → σ[j]? ≠ some (some (.ref a))) : Ok K g F (env.set i (.cel false xs)) (σ.set i (some (.ref a))) H where
  len := by simp [k.len]
  fh := k.fh
  dat := fun j e hj => by
    rcases get_set hj with ⟨_, q⟩ | ⟨n, q⟩
    · cases q
    · rw [set_ne n]
      exact k.dat j e q
  cel := fun j q ys hj => by
    rcases get_set hj with ⟨rfl, q⟩ | ⟨n, q⟩
    · cases q
      have hl : i < σ.length := by
        obtain ⟨h1, _⟩ := List.getElem?_eq_some_iff.mp hj
        rw [List.length_set, k.len] at h1
        exact h1
      exact ⟨a, vs, List.getElem?_set_self hl, hF, hH, h, (fun z => by cases z), fun _ => h0⟩
    · rw [set_ne n]
      exact k.cel j _ ys q
  sep := fun j l p q us ys c h1 h2 h3 h4 => by
    rcases get_set h1 with ⟨e1, _⟩ | ⟨n1, e1⟩
    · rcases get_set h2 with ⟨e2, _⟩ | ⟨n2, e2⟩
      · exact e1.symm.trans e2
      · rcases get_set h3 with ⟨_, e3⟩ | ⟨n3, _⟩
        · cases e3
          rw [set_ne n2] at h4
          exact absurd h4 (nw l q ys e2)
        · exact absurd e1 n3
    · rcases get_set h2 with ⟨e2, _⟩ | ⟨n2, e2⟩
      · rcases get_set h4 with ⟨_, e3⟩ | ⟨n3, _⟩
        · cases e3
          rw [set_ne n1] at h3
          exact absurd h3 (nw j p us e1)
        · exact absurd e2 n3
      · rw [set_ne n1] at h3
        rw [set_ne n2] at h4
        exact k.sep j l p q us ys c e1 e2 h3 h4
  pin := fun j b e => by
    obtain ⟨ys, q⟩ := k.pin j b e
    have n : i ≠ j := fun z => by subst z; exact hp ys q
    exact ⟨ys, by rw [set_ne n]; exact q⟩
  frame := k.frame
  newF := k.newF
  oldF := k.oldF
  prot := fun b u e => by
    obtain ⟨z1, z2, z3⟩ := k.prot b u e
    refine ⟨z1, z2, fun j p ys hj => ?_⟩
    rcases get_set hj with ⟨rfl, q⟩ | ⟨n, q⟩
    · intro z
      rcases get_set z with ⟨_, y⟩ | ⟨n, _⟩
      · cases y
        rw [hpr] at e
        cases e
      · exact n rfl
    · rw [set_ne n]
      exact z3 j p ys q
  dic := k.dic.set fun _ z => by cases z
/-- a name is forgotten (its slot may hold anything) -/
theorem Ok.setU (k : Ok K g F env σ H) {i : Nat} {o : Option V} (hp : NoPar env i) : Ok K g F (env.set i .un) (σ.set i o) H where
  len := by simp [k.len]
  fh := k.fh
  dat := fun j e hj => by
    rcases get_set hj with ⟨_, q⟩ | ⟨n, q⟩
    · cases q
    · rw [set_ne n]
      exact k.dat j e q
  cel := fun j q ys hj => by
    rcases get_set hj with ⟨_, q⟩ | ⟨n, q⟩
    · cases q
    · rw [set_ne n]
      exact k.cel j _ ys q
  sep := fun a b p q xs ys c h1 h2 h3 h4 => by
    rcases get_set h1 with ⟨_, e⟩ | ⟨n1, e1⟩
    · cases e
    rcases get_set h2 with ⟨_, e⟩ | ⟨n2, e2⟩
    · cases e
    rw [set_ne n1] at h3
    rw [set_ne n2] at h4
    exact k.sep a b p q xs ys c e1 e2 h3 h4
  pin := fun j b e => by
    obtain ⟨ys, q⟩ := k.pin j b e
    have n : i ≠ j := fun z => by subst z; exact hp ys q
    exact ⟨ys, by rw [set_ne n]; exact q⟩
  frame := k.frame
  newF := k.newF
  oldF := k.oldF
  prot := fun a u e => by
    obtain ⟨z1, z2, z3⟩ := k.prot a u e
    refine ⟨z1, z2, fun j p ys hj => ?_⟩
    rcases get_set hj with ⟨_, q⟩ | ⟨n, q⟩
    · cases q
    · rw [set_ne n]
      exact z3 j p ys q
  dic := k.dic.set fun _ z => by cases z
/-- a name gets a new thing of its own -/
theorem Ok.setW (k : Ok K g F env σ H) {B : Nat → List Addr} (db : DicsB K g F env σ H B) {i : Nat} {w : Own} {a : Addr} {bs : List Addr} (hp : NoPar env i) (r : OwnAt K g F H a bs w)
    (nw : ∀ (j : Nat) (w' : Own) (b : Addr), env[j]? = some (.dic w') → σ[j]? = some (some (.ref b)) → ∀ x ∈ a :: bs, x ∉ b :: B j) : Ok K g F (env.set i (.dic w)) (σ.set i (some (.ref a))) H := by
  have k2 := k.setU (o := some (.ref a)) hp
  have hl : ∀ {r : SD}, (env.set i (SD.dic w))[i]? = some r → (σ.set i (some (V.ref a)))[i]? = some (some (.ref a)) := fun hj => by
    obtain ⟨h1, _⟩ := List.getElem?_eq_some_iff.mp hj
    rw [List.length_set, k.len] at h1
    exact List.getElem?_set_self h1
  have oth : ∀ {j : Nat} {r : SD}, i ≠ j → (env.set i (SD.dic w))[j]? = some r → (env.set i SD.un)[j]? = some r := fun {j r} n e => by rw [set_ne n] at e ⊢; exact e
  refine ⟨by simp [k.len], k.fh, fun j d e => ?_, fun j p ys e => ?_, fun j l p q us ys c h1 h2 h3 h4 => ?_, fun j b e => ?_, k.frame, k.newF, k.oldF, fun b u e => ?_, fun j => if j = i then bs else B j, fun j w' e => ?_, fun j l w1 w2 b c e1 e2 h1 h2 n x hx => ?_⟩
  · rcases get_set e with ⟨_, z⟩ | ⟨n, z⟩
    · cases z
    · exact k2.dat j d (oth n e)
  · rcases get_set e with ⟨_, z⟩ | ⟨n, z⟩
    · cases z
    · exact k2.cel j p ys (oth n e)
  · rcases get_set h1 with ⟨_, z⟩ | ⟨n1, z⟩
    · cases z
    rcases get_set h2 with ⟨_, z⟩ | ⟨n2, z⟩
    · cases z
    exact k2.sep j l p q us ys c (oth n1 h1) (oth n2 h2) h3 h4
  · obtain ⟨ys, z⟩ := k.pin j b e
    have n : i ≠ j := fun y => by subst y; exact hp ys z
    exact ⟨ys, by rw [set_ne n]; exact z⟩
  · obtain ⟨z1, z2, z3⟩ := k2.prot b u e
    refine ⟨z1, z2, fun j p ys hj => ?_⟩
    rcases get_set hj with ⟨_, z⟩ | ⟨n, z⟩
    · cases z
    · exact z3 j p ys (oth n hj)
  · rcases get_set e with ⟨rfl, z⟩ | ⟨n, z⟩
    · cases z
      exact ⟨a, hl e, by rw [if_pos rfl]; exact r⟩
    · obtain ⟨b, z1, z2⟩ := db.at_ j w' z
      exact ⟨b, by rw [set_ne n]; exact z1, by rw [if_neg fun q => n q.symm]; exact z2⟩
  · rcases get_set e1 with ⟨rfl, z⟩ | ⟨n1, z1⟩
    · rcases get_set e2 with ⟨q, _⟩ | ⟨n2, z2⟩
      · exact absurd q n
      · rw [hl e1] at h1
        cases h1
        rw [set_ne n2] at h2
        rw [if_pos rfl] at hx
        rw [if_neg fun q => n2 q.symm]
        exact nw l w2 c z2 h2 x hx
    · rw [set_ne n1] at h1
      rw [if_neg fun q => n1 q.symm] at hx
      rcases get_set e2 with ⟨rfl, z⟩ | ⟨n2, z2⟩
      · rw [hl e2] at h2
        cases h2
        rw [if_pos rfl]
        exact fun y => nw j w1 b z1 h1 x y hx
      · rw [set_ne n2] at h2
        rw [if_neg fun q => n2 q.symm]
        exact db.sep j l w1 w2 b c z1 z2 h1 h2 n x hx
/-- a thing of one's own is changed at x -/
theorem Ok.writeW (k : Ok K g F env σ H) {B : Nat → List Addr} (db : DicsB K g F env σ H B) {i : Nat} {w w' : Own} {a x : Addr} {φ : Heap → Prop} {o' : HO} {bs' : List Addr} (he : env[i]? = some (.dic w)) (hs : σ[i]? = some (some (.ref a))) (hx : x ∈ a :: B i)
    (hH : H x = some (.ext φ)) (nc : ∀ q, HO.ext φ ≠ LamX.CodeO x q) (r : OwnAt K g F (upd H x o') a bs' w')
    (sub : ∀ y ∈ bs', y ∈ a :: B i ∨ ∀ (j : Nat) (w2 : Own) (b : Addr), env[j]? = some (.dic w2) → σ[j]? = some (some (.ref b)) → y ∉ b :: B j) : Ok K g F (env.set i (.dic w')) σ (upd H x o') := by
  obtain ⟨f1, f2, f3, _⟩ := db.there he hs hx
  have ne : ∀ {b : Addr} {vs : List V}, H b = some (.lst vs) → b ≠ x := fun {b vs} e z => by subst z; rw [hH] at e; cases e
  have oth : ∀ {j : Nat} {s : SD}, (∀ z, s ≠ .dic z) → (env.set i (.dic w'))[j]? = some s → env[j]? = some s := fun {j s} n e => by
    rcases get_set e with ⟨_, z⟩ | ⟨_, z⟩
    · exact absurd z (n _)
    · exact z
  have back : ∀ {l : Nat} {z : Own}, (env.set i (.dic w'))[l]? = some (.dic z) → ∃ w2, env[l]? = some (.dic w2) := fun {l z} e => by
    rcases get_set e with ⟨rfl, _⟩ | ⟨_, z⟩
    · exact ⟨_, he⟩
    · exact ⟨_, z⟩
  refine ⟨by simp [k.len], fun b u q => ?_, fun j e hj => k.dat j e (oth (fun _ z => by cases z) hj), fun j q us hj => ?_, fun j l q r us ws c z1 z2 z3 z4 => k.sep j l q r us ws c (oth (fun _ z => by cases z) z1) (oth (fun _ z => by cases z) z2) z3 z4, fun j b e => ?_, k.frame.putO hH (fun _ z => by cases z) nc (fun o e _ => by rw [f2] at e; cases e), k.newF, k.oldF, fun b u e => ?_,
    fun j => if j = i then bs' else B j, fun j w2 e => ?_, fun j l w1 w2 b c e1 e2 h1 h2 n y hy => ?_⟩
  · have n : b ≠ x := fun z => by rw [z, f1] at q; cases q
    rw [upd_ne n]
    exact k.fh b u q
  · obtain ⟨b, vs, z1, z2, z3, z4⟩ := k.cel j q us (oth (fun _ z => by cases z) hj)
    exact ⟨b, vs, z1, z2, by rw [upd_ne (ne z3)]; exact z3, z4⟩
  · obtain ⟨us, q⟩ := k.pin j b e
    have n : i ≠ j := fun z => by subst z; rw [he] at q; cases q
    exact ⟨us, by rw [set_ne n]; exact q⟩
  · obtain ⟨z1, z2, z3⟩ := k.prot b u e
    have n : b ≠ x := fun z => by subst z; rw [f3] at e; cases e
    exact ⟨by rw [upd_ne n]; exact z1, z2, fun j q us hj => z3 j q us (oth (fun _ z => by cases z) hj)⟩
  · rcases get_set e with ⟨rfl, z⟩ | ⟨n, z⟩
    · cases z
      exact ⟨a, hs, by rw [if_pos rfl]; exact r⟩
    · obtain ⟨b, z1, z2⟩ := db.at_ j w2 z
      have sep := db.sep j i w2 w b a z he z1 hs fun q => n q.symm
      have kp : ∀ y ∈ b :: B j, upd H x o' y = H y := fun y hy => upd_ne fun q => sep y hy (q ▸ hx)
      refine ⟨b, z1, ?_⟩
      rw [if_neg fun q => n q.symm]
      refine ⟨z2.rel.keep (Ex.refl F) kp, fun y hy => ?_⟩
      obtain ⟨y1, y2, y3, y4⟩ := z2.out y hy
      exact ⟨y1, y2, y3, by rw [kp y hy]; exact y4⟩
  · obtain ⟨v1, e1'⟩ := back e1
    obtain ⟨v2, e2'⟩ := back e2
    have old := db.sep j l v1 v2 b c e1' e2' h1 h2 n
    by_cases q1 : j = i
    · subst q1
      rw [if_pos rfl] at hy
      rw [hs] at h1
      cases h1
      rw [if_neg fun q => n q.symm]
      rcases List.mem_cons.mp hy with rfl | hy
      · exact old _ List.mem_cons_self
      · rcases sub y hy with z | z
        · exact old y z
        · exact z l v2 c e2' h2
    · rw [if_neg q1] at hy
      by_cases q2 : l = i
      · subst q2
        rw [if_pos rfl]
        rw [hs] at h2
        cases h2
        intro hz
        rcases List.mem_cons.mp hz with rfl | hz
        · exact old _ hy List.mem_cons_self
        · rcases sub y hz with z | z
          · exact old y hy z
          · exact z j v1 b e1' h1 hy
      · rw [if_neg q2]
        exact old y hy
/-- a name gets a new thing of its own, at one new place -/
theorem Ok.newW (k : Ok K g F env σ H) {i : Nat} {w : Own} {p : Addr} {φ : Heap → Prop} (hp : H p = none) (np : NoPar env i) (r : OwnR K Z F (upd H p (.ext φ)) p [] w) : Ok K g F (env.set i (.dic w)) (σ.set i (some (.ref p))) (upd H p (.ext φ)) := by
  obtain ⟨B, db⟩ := k.dic
  have k1 := k.extra (o := .ext φ) hp
  have db1 : DicsB K g F env σ (upd H p (.ext φ)) B := db.keep (Ex.refl F) (fun _ _ _ z => z) fun a ψ h1 h2 => ⟨h2, upd_ne (ne_of_none h1 hp)⟩
  have pr : g.Pr p = none := by
    cases e : g.Pr p with
    | none => rfl
    | some o => rw [(k.prot p o e).1] at hp; cases hp
  refine k1.setW db1 np ⟨r, fun x hx => ?_⟩ fun j w' b e1 e2 x hx hy => ?_
  · rw [List.mem_singleton.mp hx]
    exact ⟨fnone k.fh hp, k.fresh0 hp, pr, φ, upd_same⟩
  · rw [List.mem_singleton.mp hx] at hy
    obtain ⟨_, _, _, ψ, z⟩ := db.there e1 e2 hy
    rw [hp] at z
    cases z
/-- a cell's content is changed -/
theorem Ok.write (k : Ok K g F env σ H) {i : Nat} {p : Bool} {xs ys : List PyData} {a : Addr} {vs : List V} (he : env[i]? = some (.cel p xs)) (hs : σ[i]? = some (some (.ref a))) (h : DRs K F vs ys) :
    Ok K g F (env.set i (.cel p ys)) σ (upd H a (.lst vs)) := by
  obtain ⟨a', vs0, h1, h2, h3, h4, h5, h6⟩ := k.cel i p xs he
  rw [hs] at h1
  cases h1
  refine ⟨by simp [k.len], fun b u q => ?_, fun j e hj => ?_, fun j q us hj => ?_, fun j l q r us ws c h1 h2 h3 h4 => ?_, fun j b e => ?_, k.frame.put h3 (fun o e n => ?_), k.newF, k.oldF, fun b u e => ?_, ((k.dic.setE (i := i) (x := .cel p ys) fun _ z => by cases z).keep (Ex.refl F) (fun _ _ _ z => z) fun b _ e n => ⟨n, upd_ne fun z => by rw [z, h3] at e; cases e⟩)⟩
  · have ne : b ≠ a := fun z => by rw [z, h2] at q; cases q
    rw [upd_ne ne]
    exact k.fh b u q
  · rcases get_set hj with ⟨_, q⟩ | ⟨n, q⟩
    · cases q
    · exact k.dat j e q
  · rcases get_set hj with ⟨rfl, q⟩ | ⟨n, q⟩
    · cases q
      exact ⟨a, vs, hs, h2, upd_same, h, h5, h6⟩
    · obtain ⟨b, ws, z1, z2, z3, z4, z5⟩ := k.cel j _ us q
      have ne : b ≠ a := fun z => by
        subst z
        exact n (k.sep i j _ _ _ _ b he q hs z1)
      exact ⟨b, ws, z1, z2, by rw [upd_ne ne]; exact z3, z4, z5⟩
  · have f : ∀ {j : Nat} {q : Bool} {us : List PyData}, (env.set i (SD.cel p ys))[j]? = some (.cel q us) → ∃ q' us', env[j]? = some (.cel q' us') := fun {j q us} z => by
      rcases get_set z with ⟨rfl, _⟩ | ⟨_, z⟩
      · exact ⟨_, _, he⟩
      · exact ⟨_, _, z⟩
    obtain ⟨_, _, f1⟩ := f h1
    obtain ⟨_, _, f2⟩ := f h2
    exact k.sep j l _ _ _ _ c f1 f2 h3 h4
  · obtain ⟨us, q⟩ := k.pin j b e
    by_cases n : i = j
    · subst n
      rw [he] at q
      cases q
      exact ⟨ys, set_eq he⟩
    · exact ⟨us, by rw [set_ne n]; exact q⟩
  · cases p with
    | true => exact n i (h5 rfl)
    | false =>
      rw [h6 rfl] at e
      cases e
  · obtain ⟨z1, z2, z3⟩ := k.prot b u e
    have ne : b ≠ a := fun z => by
      subst z
      exact z3 i p xs he hs
    refine ⟨by rw [upd_ne ne]; exact z1, z2, fun j q us hj => ?_⟩
    rcases get_set hj with ⟨rfl, _⟩ | ⟨_, z⟩
    · exact z3 _ p xs he
    · exact z3 j q us z
/-- an own cell becomes a datum -/
theorem Ok.freeze (k : Ok K g F env σ H) {i : Nat} {xs : List PyData} (he : env[i]? = some (.cel false xs)) : ∃ F', Ex F F' ∧ Ok K g F' (env.set i (.dat (.list xs))) σ H := by
  obtain ⟨a, vs, h1, h2, h3, h4, h5, h6⟩ := k.cel i false xs he
  have h6 := h6 rfl
  have ex : Ex F (upd F a (.lst vs)) := Ex.new h2
  refine ⟨upd F a (.lst vs), ex, by simp [k.len], fun b u q => ?_, fun j e hj => ?_, fun j q us hj => ?_, fun j l q r us ws c z1 z2 z3 z4 => ?_, fun j b e => ?_, k.frame, fun b u q => ?_, k.oldF.new h2 (fun _ z => by cases z), fun b u e => ?_, ((k.dic.setE (i := i) (x := .dat (.list xs)) fun _ z => by cases z).keep ex (fun _ _ _ z => z) fun b ys e n => ⟨by rw [upd_ne fun z => by rw [z, h3] at e; cases e]; exact n, rfl⟩)⟩
  · by_cases z : b = a
    · subst z
      rw [upd_same] at q
      exact h3.trans q
    · rw [upd_ne z] at q
      exact k.fh b u q
  · rcases get_set hj with ⟨rfl, q⟩ | ⟨n, q⟩
    · cases q
      exact ⟨_, h1, .lst (RdL.of upd_same) (h4.mono ex)⟩
    · obtain ⟨v, z1, z2⟩ := k.dat j e q
      exact ⟨v, z1, z2.mono ex⟩
  · rcases get_set hj with ⟨_, q⟩ | ⟨n, q⟩
    · cases q
    · obtain ⟨b, ws, z1, z2, z3, z4, z5⟩ := k.cel j _ us q
      have ne : b ≠ a := fun z => by
        subst z
        exact n (k.sep i j _ _ _ _ b he q h1 z1)
      exact ⟨b, ws, z1, by rw [upd_ne ne]; exact z2, z3, z4.mono ex, z5⟩
  · rcases get_set z1 with ⟨_, e⟩ | ⟨n1, e1⟩
    · cases e
    rcases get_set z2 with ⟨_, e⟩ | ⟨n2, e2⟩
    · cases e
    exact k.sep j l q r us ws c e1 e2 z3 z4
  · obtain ⟨ys, q⟩ := k.pin j b e
    have n : i ≠ j := fun z => by subst z; rw [he] at q; cases q
    exact ⟨ys, by rw [set_ne n]; exact q⟩
  · by_cases z : b = a
    · subst z
      exact .inr h6
    · rw [upd_ne z] at q
      exact k.newF b u q
  · obtain ⟨z1, z2, z3⟩ := k.prot b u e
    have ne : b ≠ a := fun z => by
      subst z
      exact z3 i false xs he h1
    refine ⟨z1, by rw [upd_ne ne]; exact z2, fun j q us hj => ?_⟩
    rcases get_set hj with ⟨_, z⟩ | ⟨_, z⟩
    · cases z
    · exact z3 j q us z
end
end DL

namespace DL
variable {T : List (PySem.Addr × PySem.Str)} {Z : Zx T}
open PySem PySem.Spec PyProof.Rows L2
open Evl (Ex)

/-- by a truth -/
def bIf (b : Bool) (p q : Prop) : Prop := match b with
  | true => p
  | false => q
theorem bIf_t {p q : Prop} : bIf true p q = p := rfl
theorem bIf_f {p q : Prop} : bIf false p q = q := rfl
/-- a datum that is a truth -/
def bT (d : PyData) (K : Bool → Prop) : Prop := match d with
  | .bool b => K b
  | _ => False
theorem bT_inv {d : PyData} {K : Bool → Prop} (h : bT d K) : ∃ b, d = .bool b ∧ K b := by
  cases d <;> first | exact ⟨_, rfl, h⟩ | exact h.elim
theorem bIf_and {b : Bool} {q : Prop} (h : bIf b q False) : b = true ∧ q := by
  cases b
  · exact h.elim
  · exact ⟨rfl, h⟩
abbrev DE := List SD → (PyData → List SD → Prop) → Prop
abbrev DX := List SD → (SD → List SD → Prop) → Prop
abbrev DT := List SD → (Bool → List SD → Prop) → Prop
abbrev DA := List SD → (List PyData → List SD → Prop) → Prop
/-- a result: a datum, or a new cell that no name holds yet -/
def ResOk (K : PySem.W.Frag) (g : Gx Z) (F : Hp) (env : List SD) (σ : L2.St) (H : Hp) (v : V) : SD → Prop
  | .un => False
  | .dat d => DR K F v d
  | .cel _ xs => ∃ a vs, v = .ref a ∧ F a = none ∧ H a = some (.lst vs) ∧ DRs K F vs xs ∧ g.H0 a = none ∧ g.Pr a = none ∧ ∀ (j : Nat) (p : Bool) (ys : List PyData), env[j]? = some (.cel p ys) → σ[j]? ≠ some (some (.ref a))
  | .dic _ => False
def liftE (K : PySem.W.Frag) (Z : Zx T) (w : DE) : TE := fun σ H Q => ∃ (g : Gx Z) (F : Hp) (env : List SD) (P : PyData → List SD → Prop), Ok K g F env σ H ∧ w env P ∧
  ∀ d env' v F' H', P d env' → Ex F F' → Ok K g F' env' σ H' → DR K F' v d → Q v H'
def liftX (K : PySem.W.Frag) (Z : Zx T) (w : DX) : TE := fun σ H Q => ∃ (g : Gx Z) (F : Hp) (env : List SD) (P : SD → List SD → Prop), Ok K g F env σ H ∧ w env P ∧
  ∀ r env' v F' H', P r env' → Ex F F' → Ok K g F' env' σ H' → ResOk K g F' env' σ H' v r → Q v H'
def liftT (K : PySem.W.Frag) (Z : Zx T) (w : DT) : TT := fun σ H Q => ∃ (g : Gx Z) (F : Hp) (env : List SD) (P : Bool → List SD → Prop), Ok K g F env σ H ∧ w env P ∧
  ∀ b env' F' H', P b env' → Ex F F' → Ok K g F' env' σ H' → Q b H'
def liftA (K : PySem.W.Frag) (Z : Zx T) (w : DA) : TA := fun σ H Q => ∃ (g : Gx Z) (F : Hp) (env : List SD) (P : List PyData → List SD → Prop), Ok K g F env σ H ∧ w env P ∧
  ∀ ds env' vs F' H', P ds env' → Ex F F' → Ok K g F' env' σ H' → DRs K F' vs ds → Q vs H'
theorem PE.of {X : Cx} {e : Expr} {t t' : TE} (h : PE X e t) (w : ∀ σ H Q, t' σ H Q → t σ H Q) : PE X e t' := ⟨fun pins s σ H Q I q => h.run pins s σ H Q I (w σ H Q q)⟩
theorem PT.of {X : Cx} {e : Expr} {t t' : TT} (h : PT X e t) (w : ∀ σ H Q, t' σ H Q → t σ H Q) : PT X e t' := ⟨fun pins s σ H Q I q => h.run pins s σ H Q I (w σ H Q q)⟩
theorem PW.of {X : Cx} {e : Expr} {t t' : TT} (h : PW X e t) (w : ∀ σ H Q, t' σ H Q → t σ H Q) : PW X e t' := ⟨fun wh pins s σ H Q I q => h.run wh pins s σ H Q I (w σ H Q q)⟩
theorem PA.of {X : Cx} {e : List Expr} {t t' : TA} (h : PA X e t) (w : ∀ σ H Q, t' σ H Q → t σ H Q) : PA X e t' := ⟨fun p pins s σ H Q I q => h.run p pins s σ H Q I (w σ H Q q)⟩
theorem PS.of {X : Cx} {e : Stmt} {t t' : TS} (h : PS X e t) (w : ∀ D σ H, t' D σ H → t D σ H) : PS X e t' := ⟨fun pins s σ H D I q => h.run pins s σ H D I (w D σ H q)⟩
theorem PSs.of {X : Cx} {e : List Stmt} {t t' : TS} (h : PSs X e t) (w : ∀ D σ H, t' D σ H → t D σ H) : PSs X e t' := ⟨fun pins s σ H D I q => h.run pins s σ H D I (w D σ H q)⟩
section
variable {K : PySem.W.Frag} {g : Gx Z} {F F' : Hp} {env : List SD} {σ : L2.St} {H : Hp}
/-- a new cell that no name holds -/
theorem Ok.newCell (k : Ok K g F env σ H) {p : Addr} (h : H p = none) {vs : List V} {xs : List PyData} (r : DRs K F vs xs) :
    Ok K g F env σ (upd H p (.lst vs)) ∧ ResOk K g F env σ (upd H p (.lst vs)) (.ref p) (.cel false xs) := by
  refine ⟨k.extra h, p, vs, rfl, fnone k.fh h, upd_same, r, k.fresh0 h, ?_, fun j q ys e z => ?_⟩
  · cases e : g.Pr p with
    | none => rfl
    | some u =>
      have z := (k.prot p u e).1
      rw [h] at z
      cases z
  obtain ⟨a, ws, h1, _, h3, _⟩ := k.cel j q ys e
  rw [z] at h1
  cases h1
  rw [h] at h3
  cases h3
/-- such a cell becomes a datum -/
theorem Ok.freezeR (k : Ok K g F env σ H) {v : V} {p : Bool} {xs : List PyData} (h : ResOk K g F env σ H v (.cel p xs)) : ∃ F', Ex F F' ∧ Ok K g F' env σ H ∧ DR K F' v (.list xs) ∧ DR K F' v (.dict [(.none, .list xs)]) := by
  obtain ⟨a, vs, rfl, hF, hH, r, h0, hpr, nw⟩ := h
  have ex : Ex F (upd F a (.lst vs)) := Ex.new hF
  refine ⟨upd F a (.lst vs), ex, ⟨k.len, fun b u q => ?_, fun i d e => ?_, fun i q ys e => ?_, k.sep, k.pin, k.frame, fun b u q => ?_, k.oldF.new hF (fun _ z => by cases z), fun b u e => ?_, (k.dic.keep ex (fun _ _ _ z => z) fun b ys e n => ⟨by rw [upd_ne fun z => by rw [z, hH] at e; cases e]; exact n, rfl⟩)⟩, .lst (RdL.of upd_same) (r.mono ex), .row upd_same (r.mono ex)⟩
  · by_cases z : b = a
    · subst z
      rw [upd_same] at q
      exact hH.trans q
    · rw [upd_ne z] at q
      exact k.fh b u q
  · obtain ⟨v, z1, z2⟩ := k.dat i d e
    exact ⟨v, z1, z2.mono ex⟩
  · obtain ⟨b, ws, z1, z2, z3, z4, z5⟩ := k.cel i q ys e
    have ne : b ≠ a := fun z => by
      subst z
      exact nw i q ys e z1
    exact ⟨b, ws, z1, by rw [upd_ne ne]; exact z2, z3, z4.mono ex, z5⟩
  · by_cases z : b = a
    · subst z
      exact .inr h0
    · rw [upd_ne z] at q
      exact k.newF b u q
  · obtain ⟨z1, z2, z3⟩ := k.prot b u e
    have ne : b ≠ a := fun z => by
      subst z
      rw [hpr] at e
      cases e
    exact ⟨z1, by rw [upd_ne ne]; exact z2, z3⟩
theorem Ok.freezeP (k : Ok K g F env σ H) {v : V} {p : Bool} {xs : List PyData} (h : ResOk K g F env σ H v (.cel p xs)) : ∃ F', Ex F F' ∧ Ok K g F' env σ H ∧ DR K F' v (.list xs) := by
  obtain ⟨F', h1, h2, h3, _⟩ := k.freezeR h
  exact ⟨F', h1, h2, h3⟩
/-- a new tuple, a new list that never changes -/
theorem Ok.newTup (k : Ok K g F env σ H) {p : Addr} {o : Obj} (h : H p = none) (ho : PlT o) {vs : List V} {xs : List PyData} (r : DRs K F vs xs) :
    Ex F (upd F p (.frz o (.tup vs))) ∧ Ok K g (upd F p (.frz o (.tup vs))) env σ (upd H p (.frz o (.tup vs))) ∧ DR K (upd F p (.frz o (.tup vs))) (.ref p) (.tuple xs) := by
  have ex : Ex F (upd F p (.frz o (.tup vs))) := Ex.new (fnone k.fh h)
  exact ⟨ex, k.alloc h, .tup (.inl ⟨o, upd_same, ho⟩) (r.mono ex)⟩
theorem Ok.newLst (k : Ok K g F env σ H) {p : Addr} (h : H p = none) {vs : List V} {xs : List PyData} (r : DRs K F vs xs) :
    Ex F (upd F p (.lst vs)) ∧ Ok K g (upd F p (.lst vs)) env σ (upd H p (.lst vs)) ∧ DR K (upd F p (.lst vs)) (.ref p) (.list xs) := by
  have ex : Ex F (upd F p (.lst vs)) := Ex.new (fnone k.fh h)
  exact ⟨ex, k.alloc h, .lst (RdL.of upd_same) (r.mono ex)⟩
theorem drH (k : Ok K g F env σ H) {v : V} {d : PyData} (h : DR K F v d) : DR K H v d := h.mono k.fh
theorem drsH (k : Ok K g F env σ H) {v : List V} {d : List PyData} (h : DRs K F v d) : DRs K H v d := h.mono k.fh
end

section
variable {X : Cx} {a b c e : Expr} {es : List Expr} {pos : Pos} {wa wb wc w : DE} {K : PySem.W.Frag}
abbrev dVar (i : Nat) (env : List SD) (P : PyData → List SD → Prop) : Prop := match env[i]? with
  | some (.dat d) => P d env
  | _ => False
theorem lift_var {i : Nat} {σ : L2.St} {H : Hp} {Q : VK} (h : liftE K Z (dVar i) σ H Q) : tVar i σ H Q := by
  obtain ⟨g, F, env, P, k, w, q⟩ := h
  unfold dVar at w
  split at w
  · rename_i d e
    obtain ⟨v, h1, h2⟩ := k.dat i d e
    exact ⟨v, h1, q d env v F H w (Ex.refl F) k h2⟩
  · exact w.elim
theorem dv (i : Nat) {x : Str} {pos : Pos} (hN : X.N[i]? = some x := by rfl) (hv : Vis X.env.scope x := by first | exact Or.inl rfl | exact Or.inr (Or.inl rfl) | exact Or.inr (Or.inr rfl)) (hd : (x == ("__debug__" : Str)) = false := by decide)
    (hcd : (x == ("__classdict__" : Str)) = false := by decide) : PE X (.Name x pos) (liftE X.K Z (dVar i)) := PE.of (pe_var hN hv hd hcd) fun _ _ _ h => lift_var h
abbrev dC (d : PyData) (env : List SD) (P : PyData → List SD → Prop) : Prop := P d env
theorem lift_c {v : V} {d : PyData} (hv : ∀ F : Hp, DR K F v d) {σ : L2.St} {H : Hp} {Q : VK} (h : liftE K Z (dC d) σ H Q) : tC v σ H Q := by
  obtain ⟨g, F, env, P, k, w, q⟩ := h
  exact q d env v F H w (Ex.refl F) k (hv F)
theorem di {i : Int} {j pos} : PE X (.Constant (.int i) j pos) (liftE X.K Z (dC (.int i))) := PE.of pe_int fun _ _ _ h => lift_c (fun _ => .int i) h
theorem db {i : Bool} {j pos} : PE X (.Constant (.bool i) j pos) (liftE X.K Z (dC (.bool i))) := PE.of pe_bl fun _ _ _ h => lift_c (fun _ => .bl i) h
theorem dn {j pos} : PE X (.Constant .none j pos) (liftE X.K Z (dC .none)) := PE.of pe_non fun _ _ _ h => lift_c (fun _ => .non) h
theorem ds {i : Str} {j pos} : PE X (.Constant (.str i) j pos) (liftE X.K Z (dC (.str i))) := PE.of pe_str fun _ _ _ h => lift_c (fun _ => .str i) h
/-- a module's constant -/
theorem dglob {x : Str} {u : Value} {d : PyData} {pos : Pos} {v : V} (hm : X.mg x = some u) (r : RelV v u) (hd : ∀ F : Hp, DR X.K F v d) (hg : Gl X x := by rfl) (hdb : (x == ("__debug__" : Str)) = false := by decide) : PE X (.Name x pos) (liftE X.K Z (dC d)) :=
  PE.of (pe_glob hg hm r hdb) fun _ _ _ h => lift_c hd h
abbrev D2 := PyData → PyData → (PyData → Prop) → Prop
abbrev dOp (f : D2) (wa wb : DE) (env : List SD) (P : PyData → List SD → Prop) : Prop := wa env fun x env1 => wb env1 fun y env2 => f x y fun z => P z env2
def OpD (K : PySem.W.Frag) (r : R2) (f : D2) : Prop :=
  ∀ (T : List (Addr × Str)) (Z : Zx T) (g : Gx Z) (F : Hp) (env : List SD) (σ : L2.St) (H : Hp) (vx vy : V) (dx dy : PyData) (P : PyData → Prop) (Q : VK), Ok K g F env σ H → DR K F vx dx → DR K F vy dy → f dx dy P →
    (∀ d v F' H', P d → Ex F F' → Ok K g F' env σ H' → DR K F' v d → Q v H') → r vx vy H Q
theorem lift_op {r : R2} {f : D2} (hd : OpD K r f) {σ : L2.St} {H : Hp} {Q : VK} (h : liftE K Z (dOp f wa wb) σ H Q) : tOp r (liftE K Z wa) (liftE K Z wb) σ H Q := by
  obtain ⟨g, F, env, P, k, w, q⟩ := h
  refine ⟨g, F, env, _, k, w, fun d env1 v F1 H1 p e1 k1 r1 => ⟨g, F1, env1, _, k1, p, fun d2 env2 v2 F2 H2 p2 e2 k2 r2 => ?_⟩⟩
  exact hd _ _ g F2 env2 σ H2 v v2 d d2 _ Q k2 (r1.mono e2) r2 p2 fun d3 v3 F3 H3 p3 e3 k3 r3 => q d3 env2 v3 F3 H3 p3 (e1.trans (e2.trans e3)) k3 r3
theorem dop {op : Operator} {r : R2} {f : D2} (ho : OpR X (binaryOp op) r) (hd : OpD X.K r f) (ha : PE X a (liftE X.K Z wa)) (hb : PE X b (liftE X.K Z wb)) : PE X (.BinOp a op b pos) (liftE X.K Z (dOp f wa wb)) :=
  PE.of (pe_op ho ha hb) fun _ _ _ h => lift_op hd h
theorem dcmp {op : CmpOp} {r : R2} {f : D2} (ho : OpR X (compareOp op) r) (hd : OpD X.K r f) (ha : PE X a (liftE X.K Z wa)) (hb : PE X b (liftE X.K Z wb)) (hm : behindInMarks op b = false) : PE X (.Compare a [op] [b] pos) (liftE X.K Z (dOp f wa wb)) :=
  PE.of (pe_cmpR ho ha hb hm) fun _ _ _ h => lift_op hd h
abbrev dTest (w : DE) (env : List SD) (P : Bool → List SD → Prop) : Prop := w env fun d env' => bT d fun b => P b env'
theorem lift_test {t : TE} (ht : ∀ σ H Q, liftE K Z w σ H Q → t σ H Q) {σ : L2.St} {H : Hp} {Q : Bool → Hp → Prop} (h : liftT K Z (dTest w) σ H Q) : tTest t σ H Q := by
  obtain ⟨g, F, env, P, k, w, q⟩ := h
  refine ht _ _ _ ⟨g, F, env, _, k, w, fun d env1 v F1 H1 p e1 k1 r1 => ?_⟩
  obtain ⟨b, rfl, p⟩ := bT_inv p
  cases r1.inv_bool
  exact ⟨_, rfl, q _ env1 F1 H1 p e1 k1⟩
theorem dcmpT {op : CmpOp} {r : R2} {f : D2} (ho : OpR X (compareOp op) r) (hd : OpD X.K r f) (ha : PE X a (liftE X.K Z wa)) (hb : PE X b (liftE X.K Z wb)) (hm : behindInMarks op b = false) : PT X (.Compare a [op] [b] pos) (liftT X.K Z (dTest (dOp f wa wb))) :=
  PT.of (pt_cmpR ho ha hb hm) fun _ _ _ h => lift_test (fun _ _ _ h => lift_op hd h) h
/-- any other expression as a test -/
theorem dtest (h : PE X e (liftE X.K Z w)) (he : ∀ whole, isTrue e X.env whole = (do let v ← whole; standAt e.pos; holding [v] (truthy v)) := by intro _; rfl) : PT X e (liftT X.K Z (dTest w)) :=
  PT.of (pt_val h he) fun _ _ _ q => lift_test (fun _ _ _ h => h) q
/-- a < b < c -/
abbrev dChain (f f' : D2) (wa wb wc : DE) (env : List SD) (P : PyData → List SD → Prop) : Prop := wa env fun x env1 => wb env1 fun y env2 => f x y fun z => bT z fun b => bIf b (wc env2 fun u env3 => f' y u fun z2 => P z2 env3) (P (.bool false) env2)
theorem lift_chain {r r' : R2} {f f' : D2} (hd : OpD K r f) (hd' : OpD K r' f') {σ : L2.St} {H : Hp} {Q : VK} (h : liftE K Z (dChain f f' wa wb wc) σ H Q) : tChain r r' (liftE K Z wa) (liftE K Z wb) (liftE K Z wc) σ H Q := by
  obtain ⟨g, F, env, P, k, w, q⟩ := h
  refine ⟨g, F, env, _, k, w, fun d env1 v F1 H1 p e1 k1 r1 => ⟨g, F1, env1, _, k1, p, fun d2 env2 v2 F2 H2 p2 e2 k2 r2 => ?_⟩⟩
  refine hd _ _ g F2 env2 σ H2 v v2 d d2 _ _ k2 (r1.mono e2) r2 p2 fun d3 v3 F3 H3 p3 e3 k3 r3 => ?_
  obtain ⟨b, rfl, p3⟩ := bT_inv p3
  cases r3.inv_bool
  cases b with
  | true =>
    refine ⟨true, rfl, iteT ⟨g, F3, env2, _, k3, p3, fun d4 env4 v4 F4 H4 p4 e4 k4 r4 => ?_⟩⟩
    exact hd' _ _ g F4 env4 σ H4 v2 v4 d2 d4 _ Q k4 ((r2.mono e3).mono e4) r4 p4 fun d5 v5 F5 H5 p5 e5 k5 r5 => q d5 env4 v5 F5 H5 p5 (e1.trans (e2.trans (e3.trans (e4.trans e5)))) k5 r5
  | false =>
    exact ⟨false, rfl, iteF (q _ env2 _ F3 H3 p3 (e1.trans (e2.trans e3)) k3 (.bl false))⟩
theorem dchain {op op' : CmpOp} {r r' : R2} {f f' : D2} (ho : OpR X (compareOp op) r) (ho' : OpR X (compareOp op') r') (hd : OpD X.K r f) (hd' : OpD X.K r' f') (ha : PE X a (liftE X.K Z wa)) (hb : PE X b (liftE X.K Z wb)) (hc : PE X c (liftE X.K Z wc))
    (hm : lastMarks [op, op'] [b, c] = false := by with_unfolding_all rfl) : PE X (.Compare a [op, op'] [b, c] pos) (liftE X.K Z (dChain f f' wa wb wc)) :=
  PE.of (pe_chain ho ho' ha hb hc hm) fun _ _ _ h => lift_chain hd hd' h
/-- one place -/
abbrev D1 := PyData → (PyData → Prop) → Prop
abbrev dUn (f : D1) (wa : DE) (env : List SD) (P : PyData → List SD → Prop) : Prop := wa env fun x env1 => f x fun z => P z env1
def UnD (K : PySem.W.Frag) (r : V → Hp → VK → Prop) (f : D1) : Prop :=
  ∀ (T : List (Addr × Str)) (Z : Zx T) (g : Gx Z) (F : Hp) (env : List SD) (σ : L2.St) (H : Hp) (vx : V) (dx : PyData) (P : PyData → Prop) (Q : VK), Ok K g F env σ H → DR K F vx dx → f dx P →
    (∀ d v F' H', P d → Ex F F' → Ok K g F' env σ H' → DR K F' v d → Q v H') → r vx H Q
theorem dun {op : UnaryOp} {r : V → Hp → VK → Prop} {f : D1} (ho : UnR X (unaryOp op) r) (hd : UnD X.K r f) (ha : PE X a (liftE X.K Z wa)) : PE X (.UnaryOp op a pos) (liftE X.K Z (dUn f wa)) :=
  PE.of (pe_un ho ha) fun σ H Q h => by
    obtain ⟨g, F, env, P, k, w, q⟩ := h
    refine ⟨g, F, env, _, k, w, fun d env1 v F1 H1 p e1 k1 r1 => ?_⟩
    exact hd _ _ g F1 env1 σ H1 v d _ Q k1 r1 p fun d3 v3 F3 H3 p3 e3 k3 r3 => q d3 env1 v3 F3 H3 p3 (e1.trans e3) k3 r3
abbrev dAndV (wa wb : DE) (env : List SD) (P : PyData → List SD → Prop) : Prop := wa env fun x env1 => bT x fun b => bIf b (wb env1 P) (P (.bool false) env1)
abbrev dNotV (wa : DE) (env : List SD) (P : PyData → List SD → Prop) : Prop := wa env fun x env1 => bT x fun b => P (.bool (!b)) env1
variable {rest : List Expr}
theorem done {op : BoolOp} (h : PE X a (liftE X.K Z wa)) : PE X (.BoolOp op [a] pos) (liftE X.K Z wa) := pe_one h
theorem dandV (ha : PE X a (liftE X.K Z wa)) (hb : PE X (.BoolOp .And (b :: rest) pos) (liftE X.K Z wb)) : PE X (.BoolOp .And (a :: b :: rest) pos) (liftE X.K Z (dAndV wa wb)) :=
  PE.of (pe_and ha hb) fun σ H Q h => by
    obtain ⟨g, F, env, P, k, w, q⟩ := h
    refine ⟨g, F, env, _, k, w, fun d env1 v F1 H1 p e1 k1 r1 => ?_⟩
    obtain ⟨b, rfl, p⟩ := bT_inv p
    cases r1.inv_bool
    cases b with
    | true => exact ⟨true, rfl, iteT ⟨g, F1, env1, _, k1, p, fun d2 env2 v2 F2 H2 p2 e2 k2 r2 => q d2 env2 v2 F2 H2 p2 (e1.trans e2) k2 r2⟩⟩
    | false => exact ⟨false, rfl, iteF (q _ env1 _ F1 H1 p e1 k1 (.bl false))⟩
theorem dnotV (ha : PE X a (liftE X.K Z wa)) : PE X (.UnaryOp .Not a pos) (liftE X.K Z (dNotV wa)) :=
  PE.of (pe_not ha) fun σ H Q h => by
    obtain ⟨g, F, env, P, k, w, q⟩ := h
    refine ⟨g, F, env, _, k, w, fun d env1 v F1 H1 p e1 k1 r1 => ?_⟩
    obtain ⟨b, rfl, p⟩ := bT_inv p
    cases r1.inv_bool
    exact ⟨_, rfl, q _ env1 _ F1 H1 p e1 k1 (.bl _)⟩
abbrev dAnd (t u : DT) (env : List SD) (P : Bool → List SD → Prop) : Prop := t env fun b env1 => bIf b (u env1 P) (P false env1)
abbrev dOr (t u : DT) (env : List SD) (P : Bool → List SD → Prop) : Prop := t env fun b env1 => bIf b (P true env1) (u env1 P)
abbrev dNot (t : DT) (env : List SD) (P : Bool → List SD → Prop) : Prop := t env fun b env1 => P (!b) env1
variable {t u : DT}
theorem tand1 (ha : PT X a (liftT X.K Z t)) : PW X (.BoolOp .And [a] pos) (liftT X.K Z t) := pw_and1 ha
theorem tor1 (ha : PT X a (liftT X.K Z t)) : PW X (.BoolOp .Or [a] pos) (liftT X.K Z t) := pw_or1 ha
theorem tand (ha : PT X a (liftT X.K Z t)) (hb : PW X (.BoolOp .And (b :: rest) pos) (liftT X.K Z u)) : PW X (.BoolOp .And (a :: b :: rest) pos) (liftT X.K Z (dAnd t u)) :=
  PW.of (pw_and ha hb) fun σ H Q h => by
    obtain ⟨g, F, env, P, k, w, q⟩ := h
    refine ⟨g, F, env, _, k, w, fun d env1 F1 H1 p e1 k1 => ?_⟩
    cases d with
    | true => exact iteT ⟨g, F1, env1, _, k1, p, fun d2 env2 F2 H2 p2 e2 k2 => q d2 env2 F2 H2 p2 (e1.trans e2) k2⟩
    | false => exact iteF (q _ env1 F1 H1 p e1 k1)
theorem tor (ha : PT X a (liftT X.K Z t)) (hb : PW X (.BoolOp .Or (b :: rest) pos) (liftT X.K Z u)) : PW X (.BoolOp .Or (a :: b :: rest) pos) (liftT X.K Z (dOr t u)) :=
  PW.of (pw_or ha hb) fun σ H Q h => by
    obtain ⟨g, F, env, P, k, w, q⟩ := h
    refine ⟨g, F, env, _, k, w, fun d env1 F1 H1 p e1 k1 => ?_⟩
    cases d with
    | false => exact iteF ⟨g, F1, env1, _, k1, p, fun d2 env2 F2 H2 p2 e2 k2 => q d2 env2 F2 H2 p2 (e1.trans e2) k2⟩
    | true => exact iteT (q _ env1 F1 H1 p e1 k1)
theorem tnot (ha : PT X a (liftT X.K Z t)) : PT X (.UnaryOp .Not a pos) (liftT X.K Z (dNot t)) :=
  PT.of (pt_not ha) fun σ H Q h => by
    obtain ⟨g, F, env, P, k, w, q⟩ := h
    exact ⟨g, F, env, _, k, w, fun d env1 F1 H1 p e1 k1 => q _ env1 F1 H1 p e1 k1⟩
variable {was : DA}
abbrev dNil (env : List SD) (P : List PyData → List SD → Prop) : Prop := P [] env
abbrev dCons (wa : DE) (wr : DA) (env : List SD) (P : List PyData → List SD → Prop) : Prop := wa env fun x env1 => wr env1 fun xs env2 => P (x :: xs) env2
theorem anil : PA X [] (liftA X.K Z dNil) := PA.of pa_nil fun σ H Q h => by
  obtain ⟨g, F, env, P, k, w, q⟩ := h
  exact q [] env [] F H w (Ex.refl F) k .nil
theorem acons (ha : PE X e (liftE X.K Z wa)) (hr : PA X es (liftA X.K Z was)) (hs : starEach (e :: es) X.env = (false, eval e X.env) :: starEach es X.env := by rfl) : PA X (e :: es) (liftA X.K Z (dCons wa was)) :=
  PA.of (pa_cons ha hr hs) fun σ H Q h => by
    obtain ⟨g, F, env, P, k, w, q⟩ := h
    exact ⟨g, F, env, _, k, w, fun d env1 v F1 H1 p e1 k1 r1 => ⟨g, F1, env1, _, k1, p, fun ds env2 vs F2 H2 p2 e2 k2 r2 => q (d :: ds) env2 (v :: vs) F2 H2 p2 (e1.trans e2) k2 (.cons (r1.mono e2) r2)⟩⟩
abbrev dTup (wa : DA) (env : List SD) (P : PyData → List SD → Prop) : Prop := wa env fun xs env' => bIf (Nat.ble xs.length 100000) (P (.tuple xs) env') False
abbrev dLst (wa : DA) (env : List SD) (P : SD → List SD → Prop) : Prop := wa env fun xs env' => bIf (Nat.ble xs.length 100000) (P (.cel false xs) env') False
theorem dtup {k : _} (h : PA X es (liftA X.K Z was)) : PE X (.Tuple es k pos) (liftE X.K Z (dTup was)) :=
  PE.of (pe_tupZ h) fun σ H Q h => by
    obtain ⟨g, F, env, P, k, w, q⟩ := h
    refine ⟨g, F, env, _, k, w, fun ds env1 vs F1 H1 p e1 k1 r1 => ⟨by rw [r1.length]; exact Evl.sz_of (Nat.le_of_ble_eq_true (bIf_and p).1), fun x o hx ho => ?_⟩⟩
    obtain ⟨e2, k2, r2⟩ := k1.newTup hx ho r1
    exact q _ env1 _ _ _ (bIf_and p).2 (e1.trans e2) k2 r2
theorem dlst (h : PA X es (liftA X.K Z was)) : PE X (.List es pos) (liftX X.K Z (dLst was)) :=
  PE.of (pe_lst h) fun σ H Q h => by
    obtain ⟨g, F, env, P, k, w, q⟩ := h
    refine ⟨g, F, env, _, k, w, fun ds env1 vs F1 H1 p e1 k1 r1 => ⟨by rw [r1.length]; exact Evl.sz_of (Nat.le_of_ble_eq_true (bIf_and p).1), fun x hx => ?_⟩⟩
    obtain ⟨k2, r2⟩ := k1.newCell hx r1
    exact q _ env1 _ _ _ (bIf_and p).2 e1 k2 r2
/-- a new list that is to stay as it is -/
abbrev dFrz (w : DX) (env : List SD) (P : PyData → List SD → Prop) : Prop := w env fun r env' => match r with
  | .dat d => P d env'
  | .cel _ xs => P (.list xs) env'
  | _ => False
theorem dfrz {w : DX} (h : PE X e (liftX X.K Z w)) : PE X e (liftE X.K Z (dFrz w)) := PE.of h fun σ H Q h => by
  obtain ⟨g, F, env, P, k, w, q⟩ := h
  refine ⟨g, F, env, _, k, w, fun r env1 v F1 H1 p e1 k1 r1 => ?_⟩
  cases r with
  | un => exact p.elim
  | dic _ => exact p.elim
  | dat d => exact q d env1 v F1 H1 p e1 k1 r1
  | cel b xs =>
    obtain ⟨F2, e2, k2, r2⟩ := k1.freezeP r1
    exact q _ env1 v F2 H1 p (e1.trans e2) k2 r2
abbrev dX (w : DE) (env : List SD) (P : SD → List SD → Prop) : Prop := w env fun d env' => P (.dat d) env'
theorem dx {w : DE} (h : PE X e (liftE X.K Z w)) : PE X e (liftX X.K Z (dX w)) := PE.of h fun σ H Q h => by
  obtain ⟨g, F, env, P, k, w, q⟩ := h
  exact ⟨g, F, env, _, k, w, fun d env1 v F1 H1 p e1 k1 r1 => q (.dat d) env1 v F1 H1 p e1 k1 r1⟩
theorem dix {r : R2} {f : D2} (ho : IxR X r) (hd : OpD X.K r f) (ha : PE X a (liftE X.K Z wa)) (hb : PE X b (liftE X.K Z wb)) (hs : PlainIx b := by intro _ _; rfl) : PE X (.Subscript a b pos) (liftE X.K Z (dOp f wa wb)) :=
  PE.of (pe_ix ho ha hb hs) fun _ _ _ h => lift_op hd h
theorem ixr_or {r r' : R2} (h : IxR X r) (h' : IxR X r') : IxR X (fun x y H Q => r x y H Q ∨ r' x y H Q) := by
  intro value slice pins s σ H x y v u Q I rx ry q hs
  rcases q with q | q
  · exact h value slice pins s σ H x y v u Q I rx ry q hs
  · exact h' value slice pins s σ H x y v u Q I rx ry q hs
/-- the item at a place -/
@[irreducible] def pick (xs : List PyData) (k : Int) (P : PyData → Prop) : Prop := match atI xs k with
  | some d => P d
  | none => False
theorem pick_inv {xs : List PyData} {k : Int} {P : PyData → Prop} (h : pick xs k P) : ∃ d, atI xs k = some d ∧ P d := by
  unfold pick at h
  cases e : atI xs k with
  | none => rw [e] at h; exact h.elim
  | some d => rw [e] at h; exact ⟨d, rfl, h⟩
def ixQ (xs : List PyData) (y : PyData) (K : PyData → Prop) : Prop := match y with
  | .int k => pick xs k K
  | _ => False
/-- the sign at a place of a text -/
@[irreducible] def pickS (z : Str) (k : Int) (P : PyData → Prop) : Prop := match atI z.cps.toList k with
  | some c => z.length ≤ 100000 ∧ P (.str ⟨#[c]⟩)
  | none => False
theorem pickS_inv {z : Str} {k : Int} {P : PyData → Prop} (h : pickS z k P) : ∃ c, atI z.cps.toList k = some c ∧ z.length ≤ 100000 ∧ P (.str ⟨#[c]⟩) := by
  unfold pickS at h
  cases e : atI z.cps.toList k with
  | none => rw [e] at h; exact h.elim
  | some c => rw [e] at h; exact ⟨c, rfl, h⟩
def oIx (x y : PyData) (P : PyData → Prop) : Prop := match x, y with
  | .tuple xs, .int k => pick xs k P
  | .list xs, .int k => pick xs k P
  | .str z, .int k => pickS z k P
  | _, _ => False
theorem atI_rel {F : Hp} {vs : List V} {ds : List PyData} {k : Int} {d : PyData} (r : DRs K F vs ds) (h : atI ds k = some d) : ∃ v, atI vs k = some v ∧ DR K F v d := by
  unfold atI at h ⊢
  rw [r.length]
  cases e : ixN ds.length k with
  | none => rw [e] at h; cases h
  | some j =>
    rw [e] at h
    exact r.get h
def rIx (K : PySem.W.Frag) : R2 := fun x y H Q => rIxT K x y H Q ∨ (rIxL K x y H Q ∨ rIxS x y H Q)
theorem ixr : IxR X (rIx X.K) := ixr_or ix_tup (ixr_or ix_list ix_str)
theorem opd_ix : OpD K (rIx K) oIx := by
  intro _ _ g F env σ H vx vy dx dy P Q k rx ry p q
  unfold oIx at p
  split at p
  · rename_i xs i
    cases ry.inv_int
    obtain ⟨d, e, p⟩ := pick_inv p
    obtain ⟨a, us, rfl, h1, h2⟩ := rx.inv_tup
    obtain ⟨v, e1, e2⟩ := atI_rel h2 e
    exact .inl ⟨a, us, i, v, rfl, rfl, Evl.ex_t k.fh h1, e1, q d v F H p (Ex.refl F) k e2⟩
  · rename_i xs i
    cases ry.inv_int
    obtain ⟨d, e, p⟩ := pick_inv p
    obtain ⟨a, us, rfl, h1, h2⟩ := rx.inv_lst
    obtain ⟨v, e1, e2⟩ := atI_rel h2 e
    exact .inr (.inl ⟨a, us, i, v, rfl, rfl, (h1.mono k.fh).sq, e1, q d v F H p (Ex.refl F) k e2⟩)
  · rename_i z i
    cases ry.inv_int
    cases rx.inv_str
    obtain ⟨c, e, hz, p⟩ := pickS_inv p
    exact .inr (.inr ⟨z, i, c, rfl, rfl, by rw [sizeLine_eq]; omega, e, q _ _ F H p (Ex.refl F) k (.str _)⟩)
  · exact p.elim
theorem dixP (ha : PE X a (liftE X.K Z wa)) (hb : PE X b (liftE X.K Z wb)) (hs : PlainIx b := by intro _ _; rfl) : PE X (.Subscript a b pos) (liftE X.K Z (dOp oIx wa wb)) := dix ixr opd_ix ha hb hs
/-- an item of a name's own cell -/
abbrev dIxC (i : Nat) (wb : DE) (env : List SD) (P : PyData → List SD → Prop) : Prop := match env[i]? with
  | some (.cel _ _) => wb env fun y env1 => match env1[i]? with
    | some (.cel _ xs) => ixQ xs y fun d => P d env1
    | _ => False
  | _ => False
theorem dixC (i : Nat) {x : Str} {p0 : Pos} (hb : PE X b (liftE X.K Z wb)) (hN : X.N[i]? = some x := by rfl) (hv : Vis X.env.scope x := by first | exact Or.inl rfl | exact Or.inr (Or.inl rfl) | exact Or.inr (Or.inr rfl)) (hd : (x == ("__debug__" : Str)) = false := by decide)
    (hcd : (x == ("__classdict__" : Str)) = false := by decide) (hs : PlainIx b := by intro _ _; rfl) : PE X (.Subscript (.Name x p0) b pos) (liftE X.K Z (dIxC i wb)) :=
  PE.of (pe_ix ix_list (pe_var hN hv hd hcd) hb hs) fun σ H Q h => by
    obtain ⟨g, F, env, P, k, w, q⟩ := h
    unfold dIxC at w
    split at w
    · rename_i p xs e
      obtain ⟨a0, vs, h1, _⟩ := k.cel i p xs e
      refine ⟨_, h1, g, F, env, _, k, w, fun d env1 v F1 H1 p1 e1 k1 r1 => ?_⟩
      split at p1
      · rename_i p' ys e'
        obtain ⟨n, rfl, p1⟩ : ∃ n, d = .int n ∧ pick ys n _ := by
          cases d <;> first | exact ⟨_, rfl, p1⟩ | exact p1.elim
        cases r1.inv_int
        obtain ⟨d', ed, p1⟩ := pick_inv p1
        obtain ⟨a1, ws, z1, z2, z3, z4, z5⟩ := k1.cel i _ _ e'
        rw [h1] at z1
        cases z1
        obtain ⟨u, u1, u2⟩ := atI_rel z4 ed
        exact ⟨a0, ws, n, u, rfl, rfl, SqL.of z3, u1, q d' env1 u F1 H1 p1 e1 k1 u2⟩
      · exact p1.elim
    · exact w.elim
end
end DL

namespace DL
variable {T : List (PySem.Addr × PySem.Str)} {Z : Zx T}
open PySem PySem.Spec PyProof.Rows L2
open Evl (Ex)

/-- a whole number of at most thousand figures -/
def Sz (i : Int) : Prop := i.natAbs < 10 ^ 1000
theorem Sz.log {i : Int} (h : Sz i) : i.natAbs.log2 < 3322 := by
  have h1 : i.natAbs < 2 ^ 3322 := Nat.lt_trans h (by decide +kernel)
  exact PySem.Flt.log2_lt_of (by decide) h1
theorem Sz.bits {i : Int} (h : Sz i) : Builtin.Int.intBits i ≤ 3322 := by
  have h1 := h.log
  unfold Builtin.Int.intBits
  split <;> omega
theorem sz_of {i : Int} (h1 : -(10 ^ 100) ≤ i) (h2 : i ≤ 10 ^ 100) : Sz i := by
  unfold Sz
  have : i.natAbs ≤ 10 ^ 100 := by omega
  exact Nat.lt_of_le_of_lt this (by decide +kernel)
theorem sz_lt {i : Int} (h : i.natAbs < 10 ^ 250) : Sz i := Nat.lt_trans h (by decide +kernel)
section
variable {X : Cx} {K : PySem.W.Frag}
def oI (g : Int → Int → PyData) (x y : PyData) (P : PyData → Prop) : Prop := match x, y with
  | .int i, .int j => P (g i j)
  | _, _ => False
theorem opd_I0 {gv : Int → Int → V} {gd : Int → Int → PyData} (hg : ∀ (F : Hp) i j, DR K F (gv i j) (gd i j)) : OpD K (rI0 gv) (oI gd) := by
  intro _ _ g F env σ H vx vy dx dy P Q k rx ry p q
  unfold oI at p
  split at p
  · cases rx.inv_int
    cases ry.inv_int
    exact ⟨_, _, rfl, rfl, q _ _ F H p (Ex.refl F) k (hg F _ _)⟩
  · exact p.elim
def oIc (C : Int → Int → Prop) (g : Int → Int → PyData) (x y : PyData) (P : PyData → Prop) : Prop := match x, y with
  | .int i, .int j => C i j ∧ P (g i j)
  | _, _ => False
theorem opd_I {C C' : Int → Int → Prop} {gv : Int → Int → V} {gd : Int → Int → PyData} (hc : ∀ i j, C i j → C' i j) (hg : ∀ (F : Hp) i j, DR K F (gv i j) (gd i j)) : OpD K (rI C' gv) (oIc C gd) := by
  intro _ _ g F env σ H vx vy dx dy P Q k rx ry p q
  unfold oIc at p
  split at p
  · cases rx.inv_int
    cases ry.inv_int
    exact ⟨_, _, rfl, rfl, hc _ _ p.1, q _ _ F H p.2 (Ex.refl F) k (hg F _ _)⟩
  · exact p.elim
abbrev oSub : D2 := oI fun i j => .int (i - j)
/-- the one text ahead of the other -/
@[irreducible] def strLt (a b : Str) : Bool := decide (a.cps.toList < b.cps.toList)
def oLt (x y : PyData) (P : PyData → Prop) : Prop := match x, y with
  | .int i, .int j => P (.bool (decide (i < j)))
  | .str a, .str b => P (.bool (strLt a b))
  | _, _ => False
def rLtA : R2 := fun x y H Q => (rI0 fun i j => .bl (decide (i < j))) x y H Q ∨ ∃ i j, x = .str i ∧ y = .str j ∧ Q (.bl (decide (i.cps.toList < j.cps.toList))) H
theorem op_ltA {X : Cx} : OpR X (compareOp .Lt) rLtA := OpR.or op_lt op_lt_str
abbrev oLe : D2 := oI fun i j => .bool (decide (i ≤ j))
abbrev oGt : D2 := oI fun i j => .bool (decide (j < i))
abbrev oGe : D2 := oI fun i j => .bool (decide (j ≤ i))
abbrev oMod : D2 := oIc (fun _ j => 0 < j) fun i j => .int (i % j)
abbrev oDiv : D2 := oIc (fun _ j => 0 < j ∧ Sz j) fun i j => .int (i / j)
abbrev oMulI : D2 := oIc (fun i j => Sz i ∧ Sz j) fun i j => .int (i * j)
abbrev oPow : D2 := oIc (fun i j => Sz i ∧ 0 ≤ j ∧ j ≤ 10000) fun i j => .int (i ^ j.toNat)
variable {a b c e : Expr} {es : List Expr} {pos : Pos} {wa wb wc w : DE}
theorem op_powW : OpR X (binaryOp .Pow) (rI (fun i j => Sz i ∧ 0 ≤ j ∧ j ≤ 10000) fun i j => .int (i ^ j.toNat)) := by
  intro pins s σ H x y v u Q I rx ry h
  obtain ⟨i, j, rfl, rfl, ⟨h1, h2, h3⟩, q⟩ := h
  obtain ⟨t, rfl⟩ := rx
  obtain ⟨t', rfl⟩ := ry
  refine PyProof.Rows.pow_int h2 ?_ ⟨.int _, H, I.tok _, ⟨_, rfl⟩, q⟩
  have b := h1.bits
  have z : (Builtin.Int.intBits i : Int) * j ≤ 3322 * 10000 := Int.mul_le_mul (by omega) h3 h2 (by decide)
  exact Int.le_trans z (by decide)
theorem dsub (ha : PE X a (liftE X.K Z wa)) (hb : PE X b (liftE X.K Z wb)) : PE X (.BinOp a .Sub b pos) (liftE X.K Z (dOp oSub wa wb)) := dop op_sub (opd_I0 fun _ _ _ => .int _) ha hb
theorem dmod (ha : PE X a (liftE X.K Z wa)) (hb : PE X b (liftE X.K Z wb)) : PE X (.BinOp a .Mod b pos) (liftE X.K Z (dOp oMod wa wb)) := dop op_mod (opd_I (fun _ _ h => h) fun _ _ _ => .int _) ha hb
theorem ddiv (ha : PE X a (liftE X.K Z wa)) (hb : PE X b (liftE X.K Z wb)) : PE X (.BinOp a .FloorDiv b pos) (liftE X.K Z (dOp oDiv wa wb)) :=
  dop op_fdivW (opd_I (fun _ _ h => ⟨h.1, Nat.lt_trans h.2.log (by decide)⟩) fun _ _ _ => .int _) ha hb
theorem dpow (ha : PE X a (liftE X.K Z wa)) (hb : PE X b (liftE X.K Z wb)) : PE X (.BinOp a .Pow b pos) (liftE X.K Z (dOp oPow wa wb)) := dop op_powW (opd_I (fun _ _ h => h) fun _ _ _ => .int _) ha hb
theorem opr_ltA : OpD K rLtA oLt := by
  intro _ _ g F env σ H vx vy dx dy P Q k rx ry p q
  unfold oLt at p
  split at p
  · cases rx.inv_int
    cases ry.inv_int
    exact .inl ⟨_, _, rfl, rfl, q _ _ F H p (Ex.refl F) k (.bl _)⟩
  · cases rx.inv_str
    cases ry.inv_str
    unfold strLt at p
    exact .inr ⟨_, _, rfl, rfl, q _ _ F H p (Ex.refl F) k (.bl _)⟩
  · exact p.elim
theorem opr_le : OpD K (rI0 fun i j => V.bl (decide (i ≤ j))) oLe := opd_I0 fun _ _ _ => .bl _
theorem opr_gt : OpD K (rI0 fun i j => V.bl (decide (j < i))) oGt := opd_I0 fun _ _ _ => .bl _
theorem opr_ge : OpD K (rI0 fun i j => V.bl (decide (j ≤ i))) oGe := opd_I0 fun _ _ _ => .bl _
def oNeg (x : PyData) (P : PyData → Prop) : Prop := match x with
  | .int i => P (.int (-i))
  | _ => False
theorem dneg (ha : PE X a (liftE X.K Z wa)) : PE X (.UnaryOp .USub a pos) (liftE X.K Z (dUn oNeg wa)) := dun un_neg (by
  intro _ _ g F env σ H vx dx P Q k rx p q
  unfold oNeg at p
  split at p
  · cases rx.inv_int
    exact ⟨_, rfl, q _ _ F H p (Ex.refl F) k (.int _)⟩
  · exact p.elim) ha
def oAdd (x y : PyData) (P : PyData → Prop) : Prop := match x, y with
  | .int i, .int j => P (.int (i + j))
  | .tuple xs, .tuple ys => xs.length + ys.length ≤ 100000 ∧ P (.tuple (xs ++ ys))
  | .list xs, .list ys => xs.length + ys.length ≤ 100000 ∧ P (.list (xs ++ ys))
  | .str i, .str j => i.length + j.length ≤ 100000 ∧ P (.str (i ++ j))
  | _, _ => False
theorem sz2 {n : Nat} (h : n ≤ 100000) : n ≤ sizeLine := Evl.sz_of h
/-- two lists that stand, known to the object or not -/
def rCatL (K : PySem.W.Frag) : R2 := fun x y H Q => ∃ l b xs zs, x = .ref l ∧ y = .ref b ∧ RdL K H l xs ∧ RdL K H b zs ∧ xs.length + zs.length ≤ sizeLine ∧ ∀ p, H p = none → Q (.ref p) (upd H p (.lst (xs ++ zs)))
theorem op_catL : OpR X (binaryOp .Add) (rCatL X.K) := by
  intro pins s σ H x y v u Q I rx ry h
  obtain ⟨l, b, xs, zs, rfl, rfl, hl, hb, hz, q⟩ := h
  cases rx
  cases ry
  obtain ⟨z1, its, n, r1, e1⟩ := hl.obj I
  obtain ⟨z2, its2, n2, r2, e2⟩ := hb.obj I
  have l1 := r1.length
  have l2 := r2.length
  refine PySem.P.add_list e1 e2 ?_ (by rw [List.size_toArray, List.size_toArray]; omega)
  rw [show its.toArray ++ its2.toArray = (its ++ its2).toArray by simp]
  exact ⟨.ref _, _, I.lnew (t' := s.toks) (r1.append r2) (by rw [List.length_append]; omega), rfl, q _ I.fresh⟩
def rAddD (K : PySem.W.Frag) : R2 := fun x y H Q => ((rI0 fun i j => .int (i + j)) x y H Q ∨ rCatZ K x y H Q) ∨ (rCatL K x y H Q ∨ (∃ i j, x = .str i ∧ y = .str j ∧ i.length + j.length ≤ sizeLine ∧ Q (.str (i ++ j)) H))
theorem op_addD : OpR X (binaryOp .Add) (rAddD X.K) := OpR.or (OpR.or op_add op_catZ) (OpR.or op_catL op_add_str)
theorem opd_add : OpD K (rAddD K) oAdd := by
  intro _ _ g F env σ H vx vy dx dy P Q k rx ry p q
  unfold oAdd at p
  split at p
  · cases rx.inv_int
    cases ry.inv_int
    exact .inl (.inl ⟨_, _, rfl, rfl, q _ _ F H p (Ex.refl F) k (.int _)⟩)
  · rename_i xs ys
    obtain ⟨a, us, rfl, h1, h2⟩ := rx.inv_tup
    obtain ⟨b, ws, rfl, h3, h4⟩ := ry.inv_tup
    have l1 := h2.length
    have l2 := h4.length
    refine .inl (.inr ⟨a, b, us, ws, rfl, rfl, Evl.ex_t k.fh h1, Evl.ex_t k.fh h3, by rw [l1, l2]; exact sz2 p.1, fun e => ?_, fun _ e => ?_, fun _ _ x o hx ho => ?_⟩)
    · subst e
      have : xs = [] := by cases h2; rfl
      subst this
      exact q _ _ F H p.2 (Ex.refl F) k ry
    · subst e
      have : ys = [] := by cases h4; rfl
      subst this
      rw [List.append_nil] at p
      exact q _ _ F H p.2 (Ex.refl F) k rx
    · obtain ⟨e2, k2, r2⟩ := k.newTup hx ho (h2.append h4)
      exact q _ _ _ _ p.2 e2 k2 r2
  · rename_i xs ys
    obtain ⟨a, us, rfl, h1, h2⟩ := rx.inv_lst
    obtain ⟨b, ws, rfl, h3, h4⟩ := ry.inv_lst
    have l1 := h2.length
    have l2 := h4.length
    refine .inr (.inl ⟨a, b, us, ws, rfl, rfl, h1.mono k.fh, h3.mono k.fh, by rw [l1, l2]; exact sz2 p.1, fun x hx => ?_⟩)
    obtain ⟨e2, k2, r2⟩ := k.newLst hx (h2.append h4)
    exact q _ _ _ _ p.2 e2 k2 r2
  · cases rx.inv_str
    cases ry.inv_str
    exact .inr (.inr ⟨_, _, rfl, rfl, sz2 p.1, q _ _ F H p.2 (Ex.refl F) k (.str _)⟩)
  · exact p.elim
theorem dadd (ha : PE X a (liftE X.K Z wa)) (hb : PE X b (liftE X.K Z wb)) : PE X (.BinOp a .Add b pos) (liftE X.K Z (dOp oAdd wa wb)) := dop op_addD opd_add ha hb
mutual
theorem DR.dp {K : PySem.W.Frag} {H : Hp} : ∀ {d : PyData} {v : V}, DR K H v d → PyData.hasDict d = false → Dp K H v d
  | .none, _, h, _ => by cases h; exact .non
  | .bool b, _, h, _ => by cases h; exact .bl b
  | .int i, _, h, _ => by cases h; exact .int i
  | .str x, _, h, _ => by cases h; exact .str x
  | .list ds, _, h, hd => by
    cases h with
    | lst a b => exact .lst a.sq (DRs.dp b (by simpa [PyData.hasDict] using hd))
  | .tuple ds, _, h, hd => by
    cases h with
    | tup a b => exact .tup a.sq (DRs.dp b (by simpa [PyData.hasDict] using hd))
  | .dict kvs, _, _, hd => by simp [PyData.hasDict] at hd
theorem DRs.dp {K : PySem.W.Frag} {H : Hp} : ∀ {ds : List PyData} {vs : List V}, DRs K H vs ds → PyData.hasDictAll ds = false → DpAll K H vs ds
  | [], _, h, _ => by cases h; exact .nil
  | d :: ds, _, h, hd => by
    simp only [PyData.hasDictAll, Bool.or_eq_false_iff] at hd
    cases h with
    | cons a b => exact .cons (DR.dp a hd.1) (DRs.dp b hd.2)
end
/-- == of two data, not to be looked into -/
@[irreducible] def eqD (x y : PyData) : Bool := PyData.eqv x y
theorem eqD_eq {x y : PyData} : eqD x y = PyData.eqv x y := by
  unfold eqD
  rfl
theorem eqD_int {i j : Int} : eqD (.int i) (.int j) = decide (i = j) := by
  rw [eqD_eq]
  show (i == j) = _
  rw [Bool.beq_eq_decide_eq]
def oEq (x y : PyData) (P : PyData → Prop) : Prop := match x, y with
  | .str a, .str b => P (.bool (decide (a = b)))
  | x, y => (SeqAt.shaped x = true ∧ SeqAt.shaped y = true) ∧ P (.bool (eqD x y))
def oNe (x y : PyData) (P : PyData → Prop) : Prop := match x, y with
  | .str a, .str b => P (.bool (!decide (a = b)))
  | x, y => (SeqAt.shaped x = true ∧ SeqAt.shaped y = true) ∧ P (.bool (!eqD x y))
theorem dict_of_shaped {d : PyData} (h : SeqAt.shaped d = true) : PyData.hasDict d = false := PyData.hasDict_of_canLay d (SeqAt.canLay_of_shaped h)
def rEqE (K : PySem.W.Frag) : R2 := fun x y H Q => rEq x y H Q ∨ rEqD K x y H Q
def rNeE (K : PySem.W.Frag) : R2 := fun x y H Q => rNe x y H Q ∨ rNeD K x y H Q
theorem op_eqE (hu : X.A.units + 64 < cLine) : OpR X (compareOp .Eq) (rEqE X.K) := OpR.or op_eq (op_eqD hu)
theorem op_neE (hu : X.A.units + 64 < cLine) : OpR X (compareOp .NotEq) (rNeE X.K) := OpR.or op_ne (op_neD hu)
theorem str_dec {a b : Str} : decide (V.str a = V.str b) = decide (a = b) := by
  by_cases h : a = b
  · subst h
    rw [decide_eq_true rfl, decide_eq_true rfl]
  · rw [decide_eq_false h, decide_eq_false (fun z => h (V.str.inj z))]
theorem opd_eq : OpD K (rEqE K) oEq := by
  intro _ _ g F env σ H vx vy dx dy P Q k rx ry p q
  unfold oEq at p
  split at p
  · cases rx.inv_str
    cases ry.inv_str
    refine .inl ⟨rfl, ?_⟩
    rw [str_dec]
    exact q _ _ F H p (Ex.refl F) k (.bl _)
  · obtain ⟨⟨h1, h2⟩, p⟩ := p
    rw [eqD_eq] at p
    exact .inr ⟨_, _, DR.dp (drH k rx) (dict_of_shaped h1), DR.dp (drH k ry) (dict_of_shaped h2), h1, h2, q _ _ F H p (Ex.refl F) k (.bl _)⟩
theorem opd_ne : OpD K (rNeE K) oNe := by
  intro _ _ g F env σ H vx vy dx dy P Q k rx ry p q
  unfold oNe at p
  split at p
  · cases rx.inv_str
    cases ry.inv_str
    refine .inl ⟨rfl, ?_⟩
    rw [str_dec]
    exact q _ _ F H p (Ex.refl F) k (.bl _)
  · obtain ⟨⟨h1, h2⟩, p⟩ := p
    rw [eqD_eq] at p
    exact .inr ⟨_, _, DR.dp (drH k rx) (dict_of_shaped h1), DR.dp (drH k ry) (dict_of_shaped h2), h1, h2, q _ _ F H p (Ex.refl F) k (.bl _)⟩
def oIsN (x : PyData) (P : PyData → Prop) : Prop := match x with
  | .none => P (.bool true)
  | _ => P (.bool false)
def oNotN (x : PyData) (P : PyData → Prop) : Prop := match x with
  | .none => P (.bool false)
  | _ => P (.bool true)
theorem non_iff {F : Hp} {v : V} {d : PyData} (r : DR K F v d) : decide (v = .non) = match d with | .none => true | _ => false := by
  cases r <;> first | rfl | (apply decide_eq_false; intro h; cases h)
theorem tnotN {j pos'} (ha : PE X a (liftE X.K Z wa)) : PT X (.Compare a [.IsNot] [.Constant .none j pos'] pos) (liftT X.K Z (dTest (dUn oNotN wa))) :=
  PT.of (pt_cmp (pc_notN ha) rfl) fun σ H Q h => by
    obtain ⟨g, F, env, P, k, w, q⟩ := h
    refine ⟨g, F, env, _, k, w, fun d env1 v F1 H1 p e1 k1 r1 => ?_⟩
    refine ⟨_, rfl, ?_⟩
    rw [non_iff r1]
    cases d <;> exact q _ env1 F1 H1 p e1 k1
abbrev DN := List PyData → (PyData → Prop) → Prop
abbrev dB (f : DN) (wa : DA) (env : List SD) (P : PyData → List SD → Prop) : Prop := wa env fun xs env' => f xs fun z => P z env'
def CallD (K : PySem.W.Frag) (r : List V → Hp → VK → Prop) (f : DN) : Prop :=
  ∀ (T : List (Addr × Str)) (Z : Zx T) (g : Gx Z) (F : Hp) (env : List SD) (σ : L2.St) (H : Hp) (vs : List V) (ds : List PyData) (P : PyData → Prop) (Q : VK), Ok K g F env σ H → DRs K F vs ds → f ds P →
    (∀ d v F' H', P d → Ex F F' → Ok K g F' env σ H' → DR K F' v d → Q v H') → r vs H Q
theorem lift_call {r : List V → Hp → VK → Prop} {f : DN} {was : DA} (hd : CallD K r f) {σ : L2.St} {H : Hp} {Q : VK} (h : liftE K Z (dB f was) σ H Q) : tCB r (liftA K Z was) σ H Q := by
  obtain ⟨g, F, env, P, k, w, q⟩ := h
  refine ⟨g, F, env, _, k, w, fun ds env1 vs F1 H1 p e1 k1 r1 => ?_⟩
  exact hd _ _ g F1 env1 σ H1 vs ds _ Q k1 r1 p fun d2 v2 F2 H2 p2 e2 k2 r2 => q d2 env1 v2 F2 H2 p2 (e1.trans e2) k2 r2
theorem dcb {x : Str} {id : String} {p : Pos} {r : List V → Hp → VK → Prop} {f : DN} {was : DA} (hc : CallR X (.builtin id) r) (hd : CallD X.K r f) (hm : X.mg x = none) (hv : bootBuiltins x = some (.builtin id)) (ha : PA X (e :: es) (liftA X.K Z was))
    (hg : Gl X x := by rfl) (hn : x ≠ "__name__" := by decide) (hdb : (x == ("__debug__" : Str)) = false := by decide)
    (he : starEach (e :: es) X.env = (false, eval e X.env) :: starEach es X.env := by rfl) (hpl : (backTo pos (starEach es X.env)).any (·.1) = false := by rfl) : PE X (.Call (.Name x p) (e :: es) [] pos) (liftE X.K Z (dB f was)) :=
  PE.of (pe_callB hc hg hm hv ha hn hdb he hpl) fun _ _ _ h => lift_call hd h
theorem dct {x : Str} {T : String} {p : Pos} {r : List V → Hp → VK → Prop} {f : DN} {was : DA} (hc : CallR X (.type T) r) (hd : CallD X.K r f) (hm : X.mg x = none) (hv : bootBuiltins x = some (.type T)) (ha : PA X (e :: es) (liftA X.K Z was))
    (hg : Gl X x := by rfl) (hn : x ≠ "__name__" := by decide) (hdb : (x == ("__debug__" : Str)) = false := by decide)
    (he : starEach (e :: es) X.env = (false, eval e X.env) :: starEach es X.env := by rfl) (hpl : (backTo pos (starEach es X.env)).any (·.1) = false := by rfl) : PE X (.Call (.Name x p) (e :: es) [] pos) (liftE X.K Z (dB f was)) :=
  PE.of (pe_callTy hc hg hm hv ha hn hdb he hpl) fun _ _ _ h => lift_call hd h
variable {was : DA} {p : Pos}
/-- all whole numbers -/
def intsD : List PyData → Option (List Int)
  | [] => some []
  | .int i :: r => (intsD r).map (i :: ·)
  | _ :: _ => none
def boolsD : List PyData → Option (List Bool)
  | [] => some []
  | .bool i :: r => (boolsD r).map (i :: ·)
  | _ :: _ => none
theorem ints_rel {F : Hp} : ∀ {ds : List PyData} {vs : List V} {ns : List Int}, DRs K F vs ds → intsD ds = some ns → vs = ns.map V.int
  | [], _, _, h, e => by cases h; cases e; rfl
  | .int i :: r, _, ns, h, e => by
    cases h with
    | cons a b =>
      cases q : intsD r with
      | none => simp [intsD, q] at e
      | some ms =>
        simp only [intsD, q, Option.map_some, Option.some.injEq] at e
        subst e
        cases a.inv_int
        rw [ints_rel b q]
        rfl
  | .none :: _, _, _, _, e => by simp [intsD] at e
  | .bool _ :: _, _, _, _, e => by simp [intsD] at e
  | .str _ :: _, _, _, _, e => by simp [intsD] at e
  | .list _ :: _, _, _, _, e => by simp [intsD] at e
  | .tuple _ :: _, _, _, _, e => by simp [intsD] at e
  | .dict _ :: _, _, _, _, e => by simp [intsD] at e
theorem bools_rel {F : Hp} : ∀ {ds : List PyData} {vs : List V} {ns : List Bool}, DRs K F vs ds → boolsD ds = some ns → vs = ns.map V.bl
  | [], _, _, h, e => by cases h; cases e; rfl
  | .bool i :: r, _, ns, h, e => by
    cases h with
    | cons a b =>
      cases q : boolsD r with
      | none => simp [boolsD, q] at e
      | some ms =>
        simp only [boolsD, q, Option.map_some, Option.some.injEq] at e
        subst e
        cases a.inv_bool
        rw [bools_rel b q]
        rfl
  | .none :: _, _, _, _, e => by simp [boolsD] at e
  | .int _ :: _, _, _, _, e => by simp [boolsD] at e
  | .str _ :: _, _, _, _, e => by simp [boolsD] at e
  | .list _ :: _, _, _, _, e => by simp [boolsD] at e
  | .tuple _ :: _, _, _, _, e => by simp [boolsD] at e
  | .dict _ :: _, _, _, _, e => by simp [boolsD] at e
def nLen (xs : List PyData) (P : PyData → Prop) : Prop := match xs with
  | [.list ds] => P (.int (ds.length : Nat))
  | [.tuple ds] => P (.int (ds.length : Nat))
  | [.str x] => x.length ≤ 100000 ∧ P (.int (x.length : Nat))
  | _ => False
theorem dlen (hm : X.mg "len" = none) (ha : PA X (e :: es) (liftA X.K Z was)) (hg : Gl X "len" := by rfl)
    (he : starEach (e :: es) X.env = (false, eval e X.env) :: starEach es X.env := by rfl) (hpl : (backTo pos (starEach es X.env)).any (·.1) = false := by rfl) : PE X (.Call (.Name "len" p) (e :: es) [] pos) (liftE X.K Z (dB nLen was)) :=
  dcb call_len (fun _ _ g F env σ H vs ds P Q k r f q => by
    unfold nLen at f
    split at f
    · obtain ⟨v, rfl, r0⟩ := r.inv1
      obtain ⟨a, us, rfl, h1, h2⟩ := r0.inv_lst
      exact ⟨_, us.length, rfl, .inl ⟨us, (h1.mono k.fh).sq, rfl⟩, by rw [h2.length]; exact q _ _ F H f (Ex.refl F) k (.int _)⟩
    · obtain ⟨v, rfl, r0⟩ := r.inv1
      obtain ⟨a, us, rfl, h1, h2⟩ := r0.inv_tup
      exact ⟨_, us.length, rfl, .inr ⟨us, Evl.ex_t k.fh h1, rfl⟩, by rw [h2.length]; exact q _ _ F H f (Ex.refl F) k (.int _)⟩
    · obtain ⟨v, rfl, r0⟩ := r.inv1
      cases r0.inv_str
      exact ⟨_, _, rfl, ⟨sz2 f.1, rfl⟩, q _ _ F H f.2 (Ex.refl F) k (.int _)⟩
    · exact f.elim) hm PySem.boot_len ha hg (by decide) (by decide) he hpl
def nAbs (xs : List PyData) (P : PyData → Prop) : Prop := match xs with
  | [.int i] => P (.int (if i < 0 then -i else i))
  | _ => False
theorem dabs (hm : X.mg "abs" = none) (ha : PA X (e :: es) (liftA X.K Z was)) (hg : Gl X "abs" := by rfl)
    (he : starEach (e :: es) X.env = (false, eval e X.env) :: starEach es X.env := by rfl) (hpl : (backTo pos (starEach es X.env)).any (·.1) = false := by rfl) : PE X (.Call (.Name "abs" p) (e :: es) [] pos) (liftE X.K Z (dB nAbs was)) :=
  dcb call_abs (fun _ _ g F env σ H vs ds P Q k r f q => by
    unfold nAbs at f
    split at f
    · obtain ⟨v, rfl, r0⟩ := r.inv1
      cases r0.inv_int
      exact ⟨_, rfl, q _ _ F H f (Ex.refl F) k (.int _)⟩
    · exact f.elim) hm (by decide +kernel) ha hg (by decide) (by decide) he hpl
def nMin2 (xs : List PyData) (P : PyData → Prop) : Prop := match xs with
  | [.int i, .int j] => P (.int (if j < i then j else i))
  | _ => False
def nMax2 (xs : List PyData) (P : PyData → Prop) : Prop := match xs with
  | [.int i, .int j] => P (.int (if j > i then j else i))
  | _ => False
theorem dmin2 (hm : X.mg "min" = none) (hc : X.calm = true) (ha : PA X (e :: es) (liftA X.K Z was)) (hg : Gl X "min" := by rfl)
    (he : starEach (e :: es) X.env = (false, eval e X.env) :: starEach es X.env := by rfl) (hpl : (backTo pos (starEach es X.env)).any (·.1) = false := by rfl) : PE X (.Call (.Name "min" p) (e :: es) [] pos) (liftE X.K Z (dB nMin2 was)) :=
  dcb (call_min2 hc) (fun _ _ g F env σ H vs ds P Q k r f q => by
    unfold nMin2 at f
    split at f
    · obtain ⟨v, w, rfl, r1, r2⟩ := r.inv2
      cases r1.inv_int
      cases r2.inv_int
      exact ⟨_, _, rfl, q _ _ F H f (Ex.refl F) k (.int _)⟩
    · exact f.elim) hm (by decide +kernel) ha hg (by decide) (by decide) he hpl
theorem dmax2 (hm : X.mg "max" = none) (hc : X.calm = true) (ha : PA X (e :: es) (liftA X.K Z was)) (hg : Gl X "max" := by rfl)
    (he : starEach (e :: es) X.env = (false, eval e X.env) :: starEach es X.env := by rfl) (hpl : (backTo pos (starEach es X.env)).any (·.1) = false := by rfl) : PE X (.Call (.Name "max" p) (e :: es) [] pos) (liftE X.K Z (dB nMax2 was)) :=
  dcb (call_max2 hc) (fun _ _ g F env σ H vs ds P Q k r f q => by
    unfold nMax2 at f
    split at f
    · obtain ⟨v, w, rfl, r1, r2⟩ := r.inv2
      cases r1.inv_int
      cases r2.inv_int
      exact ⟨_, _, rfl, q _ _ F H f (Ex.refl F) k (.int _)⟩
    · exact f.elim) hm (by decide +kernel) ha hg (by decide) (by decide) he hpl
def nAll (xs : List PyData) (P : PyData → Prop) : Prop := match xs with
  | [.list ds] => (match boolsD ds with | some bs => P (.bool (bs.all id)) | none => False)
  | _ => False
def nAny (xs : List PyData) (P : PyData → Prop) : Prop := match xs with
  | [.list ds] => (match boolsD ds with | some bs => P (.bool (bs.any id)) | none => False)
  | _ => False
theorem dall (hm : X.mg "all" = none) (hc : X.calm = true) (ha : PA X (e :: es) (liftA X.K Z was)) (hg : Gl X "all" := by rfl)
    (he : starEach (e :: es) X.env = (false, eval e X.env) :: starEach es X.env := by rfl) (hpl : (backTo pos (starEach es X.env)).any (·.1) = false := by rfl) : PE X (.Call (.Name "all" p) (e :: es) [] pos) (liftE X.K Z (dB nAll was)) :=
  dcb (cr_all hc) (fun _ _ g F env σ H vs ds P Q k r f q => by
    unfold nAll at f
    split at f
    · split at f
      · rename_i bs e
        obtain ⟨v, rfl, r0⟩ := r.inv1
        obtain ⟨a, us, rfl, h1, h2⟩ := r0.inv_lst
        cases bools_rel h2 e
        exact ⟨a, bs, rfl, (h1.mono k.fh).sq, q _ _ F H f (Ex.refl F) k (.bl _)⟩
      · exact f.elim
    · exact f.elim) hm (by decide +kernel) ha hg (by decide) (by decide) he hpl
/-- isinstance(x, T), T a built-in type -/
def tyName : PyData → String
  | .none => "NoneType"
  | .bool _ => "bool"
  | .int _ => "int"
  | .str _ => "str"
  | .list _ => "list"
  | .tuple _ => "tuple"
  | .dict [] => "dict"
  | .dict ((.int _, _) :: _) => "dict"
  | .dict ((.str _, _) :: _) => "dict"
  | .dict _ => "list"
def isiB (d : PyData) (T : String) : Bool := (T == tyName d) || (T == "int" && tyName d == "bool")
theorem tyX_of0 {F : Hp} {v : V} {d : PyData} (r : DR K F v d) (hno : ∀ c, d ≠ .dict [(.none, .str c)]) (hno2 : ∀ a c, v = .ref a → d = .dict [(.none, c)] → ¬ Opq K a c) : TyX K F v (.type (tyName d)) := by
  cases r with
  | exc _ _ => exact absurd rfl (hno _)
  | opq _ x => exact absurd x (hno2 _ _ rfl rfl)

  | non => exact .base .non
  | bl b => exact .base (.bl b)
  | int i => exact .base (.int i)
  | str x => exact .base (.str x)
  | lst h _ =>
    rcases h with (h | ⟨o, h⟩) | ⟨its, n, h, _⟩
    · exact .base (.lst h)
    · exact .base (.frz h)
    · exact .kList h rfl
  | tup h _ =>
    rcases h.sq with (h | ⟨o, h⟩) | ⟨o, its, n, h, hc, _⟩
    · exact .base (.tup h)
    · exact .fTuple h
    · exact .kTuple h hc
  | dct h m => cases m <;> exact .fDict h
  | row h _ => exact .base (.lst h)
theorem tyX_of {F : Hp} {v : V} {d : PyData} (r : DR K F v d) : TyX K F v (.type (tyName d)) ∨ (∃ a c, v = .ref a ∧ d = .dict [(.none, .str c)] ∧ F a = some (.ext (ExcAt (He.ga K c) a)) ∧ XcF K c) ∨ ∃ a c, v = .ref a ∧ d = .dict [(.none, c)] ∧ Opq K a c ∧ IsiNo K F a := by
  by_cases h : ∃ c, d = .dict [(.none, .str c)]
  · obtain ⟨c, rfl⟩ := h
    cases r with
    | exc h x => exact .inr (.inl ⟨_, _, rfl, rfl, h, x⟩)
    | dct _ m => cases m
    | opq h x => exact .inr (.inr ⟨_, _, rfl, rfl, x, h F (Ex.refl F)⟩)
  · by_cases h2 : ∃ a c, v = .ref a ∧ d = .dict [(.none, c)] ∧ Opq K a c
    · obtain ⟨a, c, rfl, rfl, x⟩ := h2
      cases r with
      | opq h x => exact .inr (.inr ⟨_, _, rfl, rfl, x, h F (Ex.refl F)⟩)
      | exc h3 x3 => exact absurd ⟨_, rfl⟩ h
      | dct _ m => cases m
      | row _ _ => rcases x with x | ⟨_, x, _⟩ <;> cases x
    · exact .inl (tyX_of0 r (fun c z => h ⟨c, z⟩) fun a c e1 e2 x => h2 ⟨a, c, e1, e2, x⟩)
theorem kit_isi (d : PyData) : ∀ T ∈ exTypes, PySem.W.kitOne K (.type (tyName d)) (.type T) = some (isiB d T) := by
  have h : ∀ N ∈ ["NoneType", "bool", "int", "str", "list", "tuple", "dict"], ∀ T ∈ exTypes, kitB N T = some ((T == N) || (T == "int" && N == "bool")) := by decide +kernel
  intro T hT
  exact kit_ty (h (tyName d) (by unfold tyName; split <;> simp) T hT)
/-- isinstance(e, c), e a caught refusal -/
def rIsE1 (K : PySem.W.Frag) : List V → Hp → VK → Prop := fun xs H Q => ∃ (a C : Addr) (c : V) (u : Value) (b : Bool), xs = [.ref a, c] ∧ ClsV c u ∧ H a = some (.ext (ExcAt C a)) ∧ ExcC K C ∧ PySem.W.kitOne K (.ref C) u = some b ∧ Q (.bl b) H
theorem exc_inst {H : Hp} {s : Shared} {σ : L2.St} {pins : List (Addr × Obj)} {a C : Addr} (I : Inv X pins σ H s) (h : H a = some (.ext (ExcAt C a))) : ∃ oe, PySem.W.InstAt s.heap a oe C none := by
  obtain ⟨⟨oe, vs, h1, h2, h3, h4, _⟩, _⟩ := (show ObjOk X.prog X.w H s.heap a (.ext (ExcAt C a)) from I.hok a _ h)
  obtain ⟨oc, od, oda, osl⟩ := oe
  dsimp only at h2 h3 h4
  subst h2 h3 h4
  exact ⟨_, h1, rfl, rfl, trivial⟩
theorem call_isE1 : CallR X (.builtin "isinstance") (rIsE1 X.K) := by
  intro pins s σ H xs us Q I r h
  obtain ⟨a, C, c, u, b, rfl, k, hH, x, e, q⟩ := h
  obtain ⟨u1, u2, rfl, r1, r2⟩ := vals2 r
  have e2 := k.eq r2
  subst e2
  cases (show u1 = Value.ref a from r1)
  obtain ⟨oe, J⟩ := exc_inst I hH
  exact PySem.W.kia_one (PySem.W.handS_kitx_exc x.hg x.hk x.hs x.hd x.ha x.hn x.ht x.hm) I.kIn J e (fun z => nomatch z) fun tk => ⟨.bl b, H, I.tok tk, rfl, q⟩
theorem CallR.or {f : Value} {r r' : List V → Hp → VK → Prop} (h : CallR X f r) (h' : CallR X f r') : CallR X f (fun xs H Q => r xs H Q ∨ r' xs H Q) := by
  intro pins s σ H xs us Q I rv q
  rcases q with q | q
  · exact h pins s σ H xs us Q I rv q
  · exact h' pins s σ H xs us Q I rv q
/-- isinstance of an opaque thing -/
def rIsO (K : PySem.W.Frag) : List V → Hp → VK → Prop := fun xs H Q => ∃ (a : Addr) (T : String), xs = [.ref a, .ty T] ∧ T ∈ exTypes ∧ IsiNo K H a ∧ Q (.bl false) H
theorem call_isO : CallR X (.builtin "isinstance") (rIsO X.K) := by
  intro pins s σ H xs us Q I r h
  obtain ⟨a, T, rfl, hT, no, q⟩ := h
  obtain ⟨u1, u2, rfl, r1, r2⟩ := vals2 r
  cases (show u1 = Value.ref a from r1)
  cases (show u2 = Value.type T from r2)
  exact no X pins s σ T Q rfl hT I q
theorem isi_opq {a : Addr} {c : PyData} (x : Opq K a c) : ∀ T ∈ exTypes, isiB (.dict [(.none, c)]) T = false := by
  intro T hT
  simp only [exTypes, List.mem_cons, List.not_mem_nil, or_false] at hT
  rcases x with rfl | ⟨f, rfl, _⟩ <;> rcases hT with rfl | rfl | rfl | rfl | rfl <;> rfl
abbrev dIsi (T : String) (wa : DE) (env : List SD) (P : PyData → List SD → Prop) : Prop := wa env fun d env' => P (.bool (isiB d T)) env'
theorem disi (T : String) (xT : Str) {p q2 : Pos} (hm : X.mg "isinstance" = none) (hmT : X.mg xT = none) (hvT : bootBuiltins xT = some (.type T)) (hT : T ∈ exTypes) (ha : PE X a (liftE X.K Z wa)) (hg : Gl X "isinstance" := by rfl) (hgT : Gl X xT := by rfl)
    (hnT : xT ≠ "__name__" := by decide) (hdT : (xT == ("__debug__" : Str)) = false := by decide)
    (hs1 : starEach [a, .Name xT q2] X.env = (false, eval a X.env) :: starEach [.Name xT q2] X.env := by rfl) (hs2 : starEach [.Name xT q2] X.env = (false, eval (.Name xT q2) X.env) :: starEach [] X.env := by rfl)
    (hpl : (backTo pos (starEach [Expr.Name xT q2] X.env)).any (·.1) = false := by rfl) : PE X (.Call (.Name "isinstance" p) [a, .Name xT q2] [] pos) (liftE X.K Z (dIsi T wa)) :=
  PE.of (pe_callB ((call_isi.or call_isE1).or call_isO) hg hm (by decide +kernel) (pa_cons ha (pa_cons (pe_bltn (v := .ty T) hgT hmT hvT rfl hnT hdT) pa_nil hs2) hs1) (by decide) (by decide) hs1 hpl) fun σ H Q h => by
    obtain ⟨g, F, env, P, k, w, q⟩ := h
    refine ⟨g, F, env, _, k, w, fun d env1 v F1 H1 p e1 k1 r1 => ?_⟩
    rcases tyX_of (drH k1 r1) with ty | ⟨a, c, rfl, rfl, hx, x⟩ | ⟨a, c, rfl, rfl, x, no⟩
    · exact .inl <| .inl ⟨v, .ty T, _, _, _, rfl, .ty T, ty, kit_isi d T hT, q _ env1 _ F1 H1 p e1 k1 (.bl _)⟩
    · refine .inl <| .inr ⟨a, _, .ty T, _, false, rfl, .ty T, hx, x.cls, x.six T hT, ?_⟩
      have e : isiB (.dict [(.none, .str c)]) T = false := by
        have : ∀ T ∈ exTypes, isiB (.dict [(.none, .str c)]) T = false := by
          intro T hT
          simp only [exTypes, List.mem_cons, List.not_mem_nil, or_false] at hT
          rcases hT with rfl | rfl | rfl | rfl | rfl <;> rfl
        exact this T hT
      rw [e] at p
      exact q _ env1 _ F1 H1 p e1 k1 (.bl _)
    · rw [isi_opq x T hT] at p
      exact .inr ⟨a, T, rfl, hT, no, q _ env1 _ F1 H1 p e1 k1 (.bl _)⟩
end
end DL

namespace DL
variable {T : List (PySem.Addr × PySem.Str)} {Z : Zx T}
open PySem PySem.Spec PyProof.Rows L2
open Evl (Ex)

abbrev DSp := List SD → (SD → List SD → Prop) → Prop
structure ArgsOk (T : List (Addr × Str)) (K : PySem.W.Frag) (F H : Hp) (vs : List V) (as : List SD) : Prop where
  len : as.length = vs.length
  fh : Ex F H
  dat : ∀ (i : Nat) (d : PyData), as[i]? = some (.dat d) → ∃ v, vs[i]? = some v ∧ DR K F v d
  cel : ∀ (i : Nat) (p : Bool) (xs : List PyData), as[i]? = some (.cel p xs) → p = true ∧ ∃ a us, vs[i]? = some (.ref a) ∧ F a = none ∧ H a = some (.lst us) ∧ DRs K F us xs
  sep : ∀ (i j : Nat) (p q : Bool) (xs ys : List PyData) (a : Addr), as[i]? = some (.cel p xs) → as[j]? = some (.cel q ys) → vs[i]? = some (.ref a) → vs[j]? = some (.ref a) → i = j
  nod : ∀ (i : Nat) (w : Own), as[i]? ≠ some (.dic w)
  tab : LamX.Tabs T H
  nt : ∀ a ps, F a ≠ some (.tbl ps)
structure PostOk (T : List (Addr × Str)) (K : PySem.W.Frag) (F H : Hp) (vs : List V) (as : List SD) (F' H' : Hp) (as' : List SD) (v : V) (r : SD) : Prop where
  ex : Ex F F'
  nt : ∀ a ps, F' a ≠ some (.tbl ps)
  fh : Ex F' H'
  newF : ∀ (a : Addr) (o : HO), F' a = some o → F a = some o ∨ H a = none
  frame : Frm T H (fun a => ∀ (i : Nat) (p : Bool) (xs : List PyData), as[i]? = some (.cel p xs) → vs[i]? ≠ some (.ref a)) H'
  cel : ∀ (i : Nat) (p : Bool) (xs : List PyData) (a : Addr), as[i]? = some (.cel p xs) → vs[i]? = some (.ref a) → ∃ ys us, as'[i]? = some (.cel true ys) ∧ F' a = none ∧ H' a = some (.lst us) ∧ DRs K F' us ys
  res : match r with
    | .un => False
    | .dat d => DR K F' v d
    | .cel _ xs => ∃ a us, v = .ref a ∧ F' a = none ∧ H' a = some (.lst us) ∧ DRs K F' us xs ∧ H a = none
    | .dic _ => False
def spD (T : List (Addr × Str)) (K : PySem.W.Frag) (S : DSp) (vs : List V) (H : Hp) (Q : VK) : Prop := ∃ (F : Hp) (as : List SD) (P : SD → List SD → Prop), ArgsOk T K F H vs as ∧ S as P ∧
  ∀ r as' v F' H', P r as' → PostOk T K F H vs as F' H' as' v r → Q v H'
/-- the def at f keeps its promise of data; n: its parameters; it raises nothing -/
structure FnG (P : Program) (w : World) (K : PySem.W.Frag) (mg : Str → Option Value) (base : Heap) (T : List (Addr × Str)) (k : Nat) (f : Addr) (fd : FuncData) (ps : List Str) (S : DSp) : Prop where
  len : ∀ as Q, S as Q → as.length = ps.length
  go : ∀ (A : Around) (outer : List Env) (s : Shared) (H : Hp) (args : Args) (us : List Value) (vs : List V) (Q : VK), Room k A → A.guards = some [] → Env0 P w K mg base A outer s H →
    BindsTo s fd args (ps.zip us) → Vals vs us → spD T K S vs H Q → codeAny (model P w) A (.call (.ref f) args) (CR CX0 outer P w H s Q E0) s
theorem FnG.mono {P : Program} {w : World} {K : PySem.W.Frag} {mg : Str → Option Value} {base : Heap} {j k : Nat} {f : Addr} {fd : FuncData} {ps : List Str} {S : DSp} (F : FnG P w K mg base T j f fd ps S) (h : j ≤ k) : FnG P w K mg base T k f fd ps S :=
  ⟨F.len, fun A outer s H args us vs Q hr => F.go A outer s H args us vs Q (hr.mono h)⟩
/-- another promise, that follows -/
theorem FnG.imp {P : Program} {w : World} {K : PySem.W.Frag} {mg : Str → Option Value} {base : Heap} {k : Nat} {f : Addr} {fd : FuncData} {ps : List Str} {S S' : DSp} (F : FnG P w K mg base T k f fd ps S) (h : ∀ as Q, S' as Q → S as Q) : FnG P w K mg base T k f fd ps S' :=
  ⟨fun as Q q => F.len as Q (h _ _ q), fun A outer s H args us vs Q hr hg e hb r ⟨F0, as, P, a1, a2, a3⟩ => F.go A outer s H args us vs Q hr hg e hb r ⟨F0, as, P, a1, h _ _ a2, a3⟩⟩
section
variable {K : PySem.W.Frag} {g : Gx Z} {F F' : Hp} {env : List SD} {σ : L2.St} {H H' : Hp}
/-- behind a call without cells -/
theorem Ok.after (k : Ok K g F env σ H) {vs : List V} {as as' : List SD} {v : V} {r : SD} (hc : ∀ (i : Nat) (p : Bool) (xs : List PyData), as[i]? ≠ some (.cel p xs)) (p : PostOk T K F H vs as F' H' as' v r) : Ok K g F' env σ H' ∧ ResOk K g F' env σ H' v r := by
  have fr : ∀ (a : Addr) (o : HO), H a = some o → Sty o (H' a) := fun a o e => p.frame.stay a o e fun i q xs z => absurd z (hc i q xs)
  have keepN : ∀ (a : Addr) (o : HO), H a = some o → F a = none → F' a = none := fun a o e n => by
    cases q : F' a with
    | none => rfl
    | some u =>
      rcases p.newF a u q with z | z
      · rw [n] at z; cases z
      · rw [e] at z; cases z
  refine ⟨⟨k.len, p.fh, fun i d e => ?_, fun i q xs e => ?_, k.sep, k.pin, k.frame.trans p.frame fun a o e n i q xs z => absurd z (hc i q xs), fun a o e => ?_, ⟨fun a o e => p.ex a o (k.oldF.1 a o e), p.nt⟩, fun a o e => ?_, (k.dic.keep p.ex (fun _ _ _ z => z) fun a ys e n => ⟨keepN a _ e n, (fr a _ e).ext.trans e.symm⟩)⟩, ?_⟩
  · obtain ⟨u, h1, h2⟩ := k.dat i d e
    exact ⟨u, h1, h2.mono p.ex⟩
  · obtain ⟨a, us, h1, h2, h3, h4, h5⟩ := k.cel i q xs e
    exact ⟨a, us, h1, keepN a _ h3 h2, (fr a _ h3).lst, h4.mono p.ex, h5⟩
  · rcases p.newF a o e with z | z
    · exact k.newF a o z
    · exact .inr (k.fresh0 z)
  · obtain ⟨z1, z2, z3⟩ := k.prot a o e
    exact ⟨(fr a _ z1).same (g.pl a o e), keepN a _ z1 z2, z3⟩
  · have pr := p.res
    cases r with
    | un => exact pr
    | dat d => exact pr
    | dic kvs => exact pr.elim
    | cel b xs =>
      obtain ⟨a, us, h1, h2, h3, h4, h5⟩ := pr
      refine ⟨a, us, h1, h2, h3, h4, k.fresh0 h5, ?_, fun j q ys e z => ?_⟩
      · cases e : g.Pr a with
        | none => rfl
        | some u =>
          have z := (k.prot a u e).1
          rw [h5] at z
          cases z
      · obtain ⟨a', ws, z1, _, z3, _⟩ := k.cel j q ys e
        rw [z] at z1
        cases z1
        rw [h5] at z3
        cases z3
/-- behind a call whose first argument is the cell of the name i -/
theorem Ok.afterC (k : Ok K g F env σ H) {i : Nat} {p : Bool} {xs : List PyData} {a : Addr} {vs : List V} {ds : List PyData} {as' : List SD} {v : V} {r : SD} (he : env[i]? = some (.cel p xs)) (hs : σ[i]? = some (some (.ref a)))
    (q : PostOk T K F H (.ref a :: vs) (.cel true xs :: ds.map .dat) F' H' as' v r) : ∃ ys rest, as' = .cel true ys :: rest ∧ Ok K g F' (env.set i (.cel p ys)) σ H' ∧ ResOk K g F' (env.set i (.cel p ys)) σ H' v r := by
  obtain ⟨a0, us0, b1, b2, b3, b4, b5, b6⟩ := k.cel i p xs he
  rw [hs] at b1
  cases b1
  obtain ⟨ys, us, c1, c2, c3, c4⟩ := q.cel 0 true xs a rfl rfl
  obtain ⟨rest, rfl⟩ : ∃ rest, as' = .cel true ys :: rest := by
    cases as' with
    | nil => simp at c1
    | cons x rest => simp at c1; subst c1; exact ⟨rest, rfl⟩
  have nc : ∀ (b : Addr), b ≠ a → ∀ (j : Nat) (p' : Bool) (xs' : List PyData), (SD.cel true xs :: ds.map SD.dat)[j]? = some (.cel p' xs') → (V.ref a :: vs)[j]? ≠ some (.ref b) := fun b ne j p' xs' z z2 => by
    cases j with
    | zero => simp at z2; exact ne z2.symm
    | succ j =>
      simp only [List.getElem?_cons_succ, List.getElem?_map] at z
      cases y : ds[j]? with
      | none => rw [y] at z; cases z
      | some d => rw [y] at z; cases z
  have fr : ∀ (b : Addr) (o : HO), H b = some o → b ≠ a → Sty o (H' b) := fun b o e ne => q.frame.stay b o e (nc b ne)
  have keepN : ∀ (b : Addr) (o : HO), H b = some o → F b = none → F' b = none := fun b o e n => by
    cases y : F' b with
    | none => rfl
    | some u =>
      rcases q.newF b u y with z | z
      · rw [n] at z; cases z
      · rw [e] at z; cases z
  have oth : ∀ {j : Nat} {p' : Bool} {zs : List PyData}, (env.set i (SD.cel p ys))[j]? = some (.cel p' zs) → ∃ p2 z2, env[j]? = some (.cel p2 z2) := fun {j p' zs} z => by
    rcases get_set z with ⟨rfl, _⟩ | ⟨_, z⟩
    · exact ⟨_, _, he⟩
    · exact ⟨_, _, z⟩
  refine ⟨ys, rest, rfl, ⟨by simp [k.len], q.fh, fun j d e => ?_, fun j p' zs e => ?_, fun j l p1 p2 z1 z2 c h1 h2 h3 h4 => ?_, fun j b e => ?_, k.frame.trans q.frame (fun b o e n => nc b ?_), fun b o e => ?_, ⟨fun b o e => q.ex b o (k.oldF.1 b o e), q.nt⟩, fun b o e => ?_, ((k.dic.setE (i := i) (x := .cel p ys) fun _ z => by cases z).keep q.ex (fun _ _ _ z => z) fun b zs e n => ⟨keepN b _ e n, (fr b _ e fun z => by rw [z, b3] at e; cases e).ext.trans e.symm⟩)⟩, ?_⟩
  · rcases get_set e with ⟨_, z⟩ | ⟨_, z⟩
    · cases z
    · obtain ⟨u, h1, h2⟩ := k.dat j d z
      exact ⟨u, h1, h2.mono q.ex⟩
  · rcases get_set e with ⟨rfl, z⟩ | ⟨n, z⟩
    · cases z
      exact ⟨a, us, hs, c2, c3, c4, b5, b6⟩
    · obtain ⟨b, ws, h1, h2, h3, h4, h5⟩ := k.cel j _ zs z
      have ne : b ≠ a := fun y => by
        subst y
        exact n (k.sep i j _ _ _ _ b he z hs h1)
      exact ⟨b, ws, h1, keepN b _ h3 h2, (fr b _ h3 ne).lst, h4.mono q.ex, h5⟩
  · obtain ⟨_, _, f1⟩ := oth h1
    obtain ⟨_, _, f2⟩ := oth h2
    exact k.sep j l _ _ _ _ c f1 f2 h3 h4
  · obtain ⟨zs, z⟩ := k.pin j b e
    by_cases n : i = j
    · subst n
      rw [he] at z
      cases z
      exact ⟨ys, set_eq he⟩
    · exact ⟨zs, by rw [set_ne n]; exact z⟩
  · intro z
    subst z
    cases p with
    | true => exact n i (b5 rfl)
    | false =>
      rw [b6 rfl] at e
      cases e
  · rcases q.newF b o e with z | z
    · exact k.newF b o z
    · exact .inr (k.fresh0 z)
  · obtain ⟨z1, z2, z3⟩ := k.prot b o e
    have ne : b ≠ a := fun z => by
      subst z
      exact z3 i p xs he hs
    refine ⟨(fr b _ z1 ne).same (g.pl b o e), keepN b _ z1 z2, fun j p' zs e' => ?_⟩
    obtain ⟨_, _, f1⟩ := oth e'
    exact z3 j _ _ f1
  · have pr := q.res
    cases r with
    | un => exact pr
    | dat d => exact pr
    | dic kvs => exact pr.elim
    | cel b xs2 =>
      obtain ⟨c, ws, h1, h2, h3, h4, h5⟩ := pr
      refine ⟨c, ws, h1, h2, h3, h4, k.fresh0 h5, ?_, fun j p' zs e z => ?_⟩
      · cases e : g.Pr c with
        | none => rfl
        | some u =>
          have z := (k.prot c u e).1
          rw [h5] at z
          cases z
      · obtain ⟨_, _, f1⟩ := oth e
        obtain ⟨a', ws', z1, _, z3, _⟩ := k.cel j _ _ f1
        rw [z] at z1
        cases z1
        rw [h5] at z3
        cases z3
theorem args_dat (hf : Ex F H) (tb : LamX.Tabs T H) (nt : ∀ a ps, F a ≠ some (.tbl ps)) {vs : List V} {ds : List PyData} (r : DRs K F vs ds) : ArgsOk T K F H vs (ds.map .dat) where
  len := by rw [List.length_map]; exact r.length.symm
  fh := hf
  dat := fun i d e => by
    rw [List.getElem?_map] at e
    cases q : ds[i]? with
    | none => rw [q] at e; cases e
    | some x =>
      rw [q] at e
      cases e
      exact r.get q
  cel := fun i p xs e => by
    rw [List.getElem?_map] at e
    cases q : ds[i]? with
    | none => rw [q] at e; cases e
    | some x => rw [q] at e; cases e
  sep := fun i j p q xs ys a e => by
    rw [List.getElem?_map] at e
    cases q : ds[i]? with
    | none => rw [q] at e; cases e
    | some x => rw [q] at e; cases e
  nod := fun i kvs e => by
    rw [List.getElem?_map] at e
    cases q : ds[i]? with
    | none => rw [q] at e; cases e
    | some x => rw [q] at e; cases e
  tab := tb
  nt := nt
theorem no_cel {ds : List PyData} (i : Nat) (p : Bool) (xs : List PyData) : (ds.map SD.dat)[i]? ≠ some (.cel p xs) := fun e => by
  rw [List.getElem?_map] at e
  cases q : ds[i]? with
  | none => rw [q] at e; cases e
  | some x => rw [q] at e; cases e
theorem args_cel (hf : Ex F H) (tb : LamX.Tabs T H) (nt : ∀ a ps, F a ≠ some (.tbl ps)) {a : Addr} {us : List V} {xs : List PyData} {vs : List V} {ds : List PyData} (hF : F a = none) (hH : H a = some (.lst us)) (rx : DRs K F us xs) (r : DRs K F vs ds) : ArgsOk T K F H (.ref a :: vs) (.cel true xs :: ds.map .dat) := by
  have b := args_dat hf tb nt r
  refine ⟨by simp [r.length], hf, fun i d e => ?_, fun i p zs e => ?_, fun i j p q zs ys c e1 e2 _ _ => ?_, fun i kvs e => ?_, tb, nt⟩
  · cases i with
    | zero => simp at e
    | succ i =>
      obtain ⟨v, h1, h2⟩ := b.dat i d (by simpa using e)
      exact ⟨v, by simpa using h1, h2⟩
  · cases i with
    | zero =>
      simp at e
      obtain ⟨rfl, rfl⟩ := e
      exact ⟨rfl, a, us, rfl, hF, hH, rx⟩
    | succ i => exact absurd (by simpa using e) (no_cel (ds := ds) i p zs)
  · cases i with
    | succ i => exact absurd (by simpa using e1) (no_cel (ds := ds) i p zs)
    | zero =>
      cases j with
      | zero => rfl
      | succ j => exact absurd (by simpa using e2) (no_cel (ds := ds) j q ys)
  · cases i with
    | zero => simp at e
    | succ i => exact b.nod i kvs (by simpa using e)
end

section
variable {X : Cx} {k : Nat} {f : Addr} {fd : FuncData} {ps : List Str} {S : DSp} {x : Str} {p pos : Pos} {e : Expr} {es : List Expr} {was : DA}
/-- the callee runs -/
theorem run_g {pins : List (Addr × Obj)} {σ : L2.St} {H : Hp} {s : Shared} {Q : VK} {us : List Value} {vs : List V} (G : FnG X.prog X.w X.K X.mg X.base T k f fd ps S) (hr : Room k X.A) (hg : X.A.guards = some []) (hb : Binds X.K fd ps [])
    (I : Inv X pins σ H s) (r : Vals vs us) (h : spD T X.K S vs H Q) : wpAny (model X.prog X.w) X.A (call (.ref f) us) (EP X pins σ Q) X.xe s := by
  obtain ⟨F0, as, P, a1, a2, a3⟩ := id h
  have hl : (us ++ ([] : List Value)).length = ps.length := by rw [List.append_nil, ← r.length, ← a1.len]; exact G.len _ _ a2
  have hbb := hb s us I.kIn hl
  rw [List.append_nil] at hbb
  refine wpAny_call (codeAny_mono (G.go X.A X.stack s H ⟨us, []⟩ us vs Q hr hg I.env0 hbb r h) fun res s' hq => ?_)
  match res, hq with
  | .error e, hq => exact hq.elim
  | .ok (.ret u), hq => exact I.after hq
  | .ok .next, hq => exact hq.elim
  | .ok .brk, hq => exact hq.elim
  | .ok .cont, hq => exact hq.elim
/-- f(..), all arguments data -/
abbrev dCall (S : DSp) (was : DA) (env : List SD) (P : SD → List SD → Prop) : Prop := was env fun ds env1 => S (ds.map .dat) fun r _ => P r env1
theorem dcall (G : FnG X.prog X.w X.K X.mg X.base T k f fd ps S) (hr : Room k X.A) (hA : X.A.guards = some []) (hm : X.mg x = some (.ref f)) (hk : PySem.W.keepIn X.K (.ref f) = true) (hb : Binds X.K fd ps [])
    (ha : PA X (e :: es) (liftA X.K Z was)) (hg : Gl X x := by rfl) (hdb : (x == ("__debug__" : Str)) = false := by decide)
    (he : starEach (e :: es) X.env = (false, eval e X.env) :: starEach es X.env := by rfl) (hpl : (backTo pos (starEach es X.env)).any (·.1) = false := by rfl) : PE X (.Call (.Name x p) (e :: es) [] pos) (liftX X.K Z (dCall S was)) := by
  refine ⟨fun pins s σ H Q I ⟨g, F, env, P, k0, w, q⟩ => wpAny_Call_Name_kw (ld_glob I hg hm (PySem.W.callWith_K (h₀ := X.base) I.ok.mod.kin hk (thn (ha.run pos pins s σ H (spD T X.K S · · Q) I ?_) fun us s1 ⟨vs, H1, I1, r, q1⟩ => ⟨I1.kIn, run_g G hr hA hb I1 r q1⟩) he hpl) hdb)⟩
  refine ⟨g, F, env, _, k0, w, fun ds env1 vs F1 H1 p1 e1 k1 r1 => ⟨F1, ds.map .dat, _, args_dat k1.fh k1.frame.tab k1.oldF.2 r1, p1, fun r as' v F2 H2 p2 po => ?_⟩⟩
  obtain ⟨k2, r2⟩ := k1.after no_cel po
  exact q r env1 v F2 H2 p2 (e1.trans po.ex) k2 r2
/-- f(x, ..), x the name i's own cell, which f may change -/
abbrev dCallC (S : DSp) (i : Nat) (was : DA) (env : List SD) (P : SD → List SD → Prop) : Prop := match env[i]? with
  | some (.cel _ _) => was env fun ds env1 => match env1[i]? with
    | some (.cel p xs) => S (.cel true xs :: ds.map .dat) fun r as' => match as' with
      | .cel _ ys :: _ => P r (env1.set i (.cel p ys))
      | _ => False
    | _ => False
  | _ => False
theorem dcallC (i : Nat) {y : Str} {p0 : Pos} (G : FnG X.prog X.w X.K X.mg X.base T k f fd ps S) (hr : Room k X.A) (hA : X.A.guards = some []) (hm : X.mg x = some (.ref f)) (hk : PySem.W.keepIn X.K (.ref f) = true) (hb : Binds X.K fd ps [])
    (ha : PA X es (liftA X.K Z was)) (hN : X.N[i]? = some y := by rfl) (hv : Vis X.env.scope y := by first | exact Or.inl rfl | exact Or.inr (Or.inl rfl) | exact Or.inr (Or.inr rfl)) (hd : (y == ("__debug__" : Str)) = false := by decide)
    (hcd : (y == ("__classdict__" : Str)) = false := by decide) (hg : Gl X x := by rfl) (hdb : (x == ("__debug__" : Str)) = false := by decide)
    (he : starEach (.Name y p0 :: es) X.env = (false, eval (.Name y p0) X.env) :: starEach es X.env := by rfl) (hpl : (backTo pos (starEach es X.env)).any (·.1) = false := by rfl) :
    PE X (.Call (.Name x p) (.Name y p0 :: es) [] pos) (liftX X.K Z (dCallC S i was)) := by
  refine ⟨fun pins s σ H Q I ⟨g, F, env, P, k0, w, q⟩ => wpAny_Call_Name_kw (ld_glob I hg hm (PySem.W.callWith_K (h₀ := X.base) I.ok.mod.kin hk (thn ((pa_cons (pe_var hN hv hd hcd) ha he).run pos pins s σ H (spD T X.K S · · Q) I ?_) fun us s1 ⟨vs, H1, I1, r, q1⟩ => ⟨I1.kIn, run_g G hr hA hb I1 r q1⟩) he hpl) hdb)⟩
  unfold dCallC at w
  split at w
  · rename_i p' xs' e0
    obtain ⟨a0, us0, b1, _⟩ := k0.cel i p' xs' e0
    refine ⟨_, b1, g, F, env, _, k0, w, fun ds env1 vs F1 H1 p1 e1 k1 r1 => ?_⟩
    split at p1
    · rename_i p2 xs ex
      obtain ⟨a1, us1, c1, c2, c3, c4, _⟩ := k1.cel i p2 xs ex
      rw [b1] at c1
      cases c1
      refine ⟨F1, _, _, args_cel k1.fh k1.frame.tab k1.oldF.2 c2 c3 c4 r1, p1, fun r as' v F2 H2 p3 po => ?_⟩
      obtain ⟨ys, rest, rfl, k2, r2⟩ := k1.afterC ex b1 po
      exact q r _ v F2 H2 p3 (e1.trans po.ex) k2 r2
    · exact p1.elim
  · exact w.elim
end

structure DEnds where
  nx : List SD → Prop
  rt : SD → List SD → Prop
  bk : List SD → Prop := fun _ => False
  ct : List SD → Prop := fun _ => False
  nol : Bool := false
abbrev DS := DEnds → List SD → Prop
structure Ends4 (K : PySem.W.Frag) (m : Nat) (g : Gx Z) (F : Hp) (P : DEnds) (D : Ends) : Prop where
  nx : ∀ env' σ' F' H', P.nx env' → Ex F F' → Ok K g F' env' σ' H' → D.nx σ' H'
  bk : ∀ env' σ' F' H', P.bk env' → Ex F F' → Ok K g F' env' σ' H' → D.bk σ' H'
  ct : ∀ env' σ' F' H', P.ct env' → Ex F F' → Ok K g F' env' σ' H' → D.ct σ' H'
  rt : ∀ r env' v σ' F' H', P.rt r (env'.take m) → Ex F F' → Ok K g F' env' σ' H' → ResOk K g F' env' σ' H' v r → D.rt v H'
/-- P.nol: no list stood at the def's begin -/
structure EndsOk (K : PySem.W.Frag) (m : Nat) (g : Gx Z) (F : Hp) (P : DEnds) (D : Ends) : Prop extends Ends4 K m g F P D where
  free : P.nol = true → (∀ a, g.F0 a = none) ∧ ∀ F', Ends4 K m g F' P D
theorem EndsOk.any {K : PySem.W.Frag} {m : Nat} {g : Gx Z} {F : Hp} {P : DEnds} {D : Ends} (h : EndsOk K m g F P D) (n : P.nol = true) (F' : Hp) : EndsOk K m g F' P D := ⟨(h.free n).2 F', h.free⟩
theorem EndsOk.mk4 {K : PySem.W.Frag} {m : Nat} {g : Gx Z} {F : Hp} {P : DEnds} {D : Ends} (h : Ends4 K m g F P D) (n : P.nol = false) : EndsOk K m g F P D := ⟨h, fun z => by rw [n] at z; cases z⟩
def liftS (K : PySem.W.Frag) (Z : Zx T) (m : Nat) (w : DS) : TS := fun D σ H => ∃ (g : Gx Z) (F : Hp) (env : List SD) (P : DEnds), Ok K g F env σ H ∧ w P env ∧ EndsOk K m g F P D
theorem EndsOk.ex {K : PySem.W.Frag} {m : Nat} {g : Gx Z} {F F' : Hp} {P : DEnds} {D : Ends} (h : EndsOk K m g F P D) (e : Ex F F') : EndsOk K m g F' P D :=
  ⟨⟨fun a b c d p x => h.nx a b c d p (e.trans x), fun a b c d p x => h.bk a b c d p (e.trans x), fun a b c d p x => h.ct a b c d p (e.trans x), fun a b c d f g' p x => h.rt a b c d f g' p (e.trans x)⟩, h.free⟩
section
variable {X : Cx} {st : Stmt} {sts : List Stmt} {w w2 : DS} {m : Nat} {e : Expr} {we : DE} {wx : DX} {pos : Pos}
abbrev dNext (E : DEnds) (env : List SD) : Prop := E.nx env
abbrev dSeq (w w2 : DS) (E : DEnds) (env : List SD) : Prop := w { E with nx := w2 E } env
abbrev dNever (_ : DEnds) (_ : List SD) : Prop := False
theorem snil : PSs X [] (liftS X.K Z m dNext) := PSs.of pss_nil fun D σ H ⟨g, F, env, P, k, w, q⟩ => q.nx env σ F H w (Ex.refl F) k
theorem scons (h1 : PS X st (liftS X.K Z m w)) (h2 : PSs X sts (liftS X.K Z m w2)) : PSs X (st :: sts) (liftS X.K Z m (dSeq w w2)) := PSs.of (pss_cons h1 h2) fun D σ H ⟨g, F, env, P, k, w, q⟩ =>
  ⟨g, F, env, _, k, w, ⟨⟨fun env' σ' F' H' p e k' => ⟨g, F', env', P, k', p, q.ex e⟩, q.bk, q.ct, q.rt⟩, fun n => ⟨(q.free n).1, fun F2 => ⟨fun env' σ' F' H' p e k' => ⟨g, F', env', P, k', p, q.any n F'⟩, ((q.free n).2 F2).bk, ((q.free n).2 F2).ct, ((q.free n).2 F2).rt⟩⟩⟩⟩
theorem sone (h1 : PS X st (liftS X.K Z m w)) : PSs X [st] (liftS X.K Z m w) := pss_one h1
theorem snever : PS X st (liftS X.K Z m dNever) := PS.of ps_never fun D σ H ⟨g, F, env, P, k, w, q⟩ => w
/-- a name that is no parameter's cell -/
def npB : SD → Bool
  | .cel true _ => false
  | _ => true
def noPar (env : List SD) (i : Nat) : Bool := match env[i]? with
  | some r => npB r
  | none => true
theorem noPar_of {env : List SD} {i : Nat} (h : noPar env i = true) : NoPar env i := fun xs e => by
  unfold noPar at h
  rw [e] at h
  cases h
theorem Ok.setR {K : PySem.W.Frag} {g : Gx Z} {F : Hp} {env : List SD} {σ : L2.St} {H : Hp} {i : Nat} {v : V} {r : SD} (k : Ok K g F env σ H) (hp : noPar env i = true) (h : ResOk K g F env σ H v r) (hr : ∀ xs, r ≠ .cel true xs) : Ok K g F (env.set i r) (σ.set i (some v)) H := by
  cases r with
  | un => exact h.elim
  | dat d => exact k.setD (noPar_of hp) h
  | cel b xs =>
    obtain ⟨a, vs, rfl, h1, h2, h3, h4, h5, h6⟩ := h
    cases b with
    | true => exact absurd rfl (hr xs)
    | false => exact k.setC (noPar_of hp) h1 h2 h3 h4 h5 h6
  | dic kvs => exact h.elim
/-- what a new cell is called -/
def asOwn : SD → SD
  | .cel _ xs => .cel false xs
  | r => r
theorem res_own {K : PySem.W.Frag} {g : Gx Z} {F : Hp} {env : List SD} {σ : L2.St} {H : Hp} {v : V} {r : SD} (h : ResOk K g F env σ H v r) : ResOk K g F env σ H v (asOwn r) := by
  cases r <;> exact h
theorem own_ne {r : SD} (xs : List PyData) : asOwn r ≠ .cel true xs := by
  cases r <;> (intro h; cases h)
/-- name = e -/
abbrev dSet (i : Nat) (wx : DX) (E : DEnds) (env : List SD) : Prop := wx env fun r env1 => bIf (noPar env1 i) (E.nx (env1.set i (asOwn r))) False
theorem sset (i : Nat) {x : Str} {pos' : Pos} (hN : X.N.Nodup) (he : PE X e (liftX X.K Z wx)) (hi : X.N[i]? = some x := by rfl) (hx : Loc X.env.scope x := by first | exact Or.inl rfl | exact Or.inr rfl) (hs : swapsWith e (some (.Name x pos')) pos.line X.env = pure false := by rfl)
    (hf : X.fn x = true ∨ X.env.scope.names.lookup x = some .local := by first | exact .inl rfl | exact .inr rfl) : PS X (.Assign [.Name x pos'] e pos) (liftS X.K Z m (dSet i wx)) := PS.of (ps_set hN hi hx he hs hf) fun D σ H ⟨g, F, env, P, k, w, q⟩ =>
  ⟨g, F, env, _, k, w, fun r env1 v F1 H1 p e1 k1 r1 => q.nx _ _ F1 H1 (bIf_and p).2 e1 (k1.setR (bIf_and p).1 (res_own r1) own_ne)⟩
/-- return e -/
abbrev dRet (m : Nat) (wx : DX) (E : DEnds) (env : List SD) : Prop := wx env fun r env1 => E.rt (asOwn r) (env1.take m)
theorem sret (he : PE X e (liftX X.K Z wx)) : PS X (.Return (some e) pos) (liftS X.K Z m (dRet m wx)) := PS.of (ps_ret he) fun D σ H ⟨g, F, env, P, k, w, q⟩ =>
  ⟨g, F, env, _, k, w, fun r env1 v F1 H1 p e1 k1 r1 => q.rt _ env1 v σ F1 H1 p e1 k1 (res_own r1)⟩
/-- an expression for what it does -/
abbrev dDrop (wx : DX) (E : DEnds) (env : List SD) : Prop := wx env fun _ env1 => E.nx env1
theorem sexpr (he : PE X e (liftX X.K Z wx)) (hs : swapsWith e none pos.line X.env = pure false := by rfl) : PS X (.Expr e pos) (liftS X.K Z m (dDrop wx)) := PS.of (ps_expr he hs) fun D σ H ⟨g, F, env, P, k, w, q⟩ =>
  ⟨g, F, env, _, k, w, fun r env1 v F1 H1 p e1 k1 _ => q.nx env1 σ F1 H1 p e1 k1⟩
abbrev dIfS (t : DT) (w w2 : DS) (E : DEnds) (env : List SD) : Prop := t env fun b env1 => bIf b (w E env1) (w2 E env1)
theorem sif {c : Expr} {a b : List Stmt} {t : DT} (hc : PT X c (liftT X.K Z t)) (ha : PSs X a (liftS X.K Z m w)) (hb : PSs X b (liftS X.K Z m w2)) : PS X (.If c a b pos) (liftS X.K Z m (dIfS t w w2)) := PS.of (ps_if hc ha hb) fun D σ H ⟨g, F, env, P, k, w, q⟩ =>
  ⟨g, F, env, _, k, w, fun b env1 F1 H1 p e1 k1 => by
    cases b with
    | true => exact iteT ⟨g, F1, env1, P, k1, p, q.ex e1⟩
    | false => exact iteF ⟨g, F1, env1, P, k1, p, q.ex e1⟩⟩
/-- return of a name's own cell -/
abbrev dRetC (m : Nat) (i : Nat) (E : DEnds) (env : List SD) : Prop := match env[i]? with
  | some (.cel false xs) => E.rt (.cel false xs) ((env.set i .un).take m)
  | _ => False
theorem Ok.drop {K : PySem.W.Frag} {g : Gx Z} {F : Hp} {env : List SD} {σ : L2.St} {H : Hp} {i : Nat} {xs : List PyData} (k : Ok K g F env σ H) (he : env[i]? = some (.cel false xs)) : ∃ a, σ[i]? = some (some (.ref a)) ∧ Ok K g F (env.set i .un) σ H ∧ ResOk K g F (env.set i .un) σ H (.ref a) (.cel false xs) := by
  obtain ⟨a, vs, h1, h2, h3, h4, _, h6⟩ := k.cel i false xs he
  have np : NoPar env i := fun ys z => by rw [he] at z; cases z
  have k2 := k.setU (o := some (.ref a)) np
  have e : σ.set i (some (.ref a)) = σ := List.ext_getElem? fun j => by
    rw [List.getElem?_set]
    split
    · rename_i z
      subst z
      split
      · exact h1.symm
      · rename_i z
        exact absurd (List.getElem?_eq_some_iff.mp h1).1 z
    · rfl
  rw [e] at k2
  refine ⟨a, h1, k2, a, vs, rfl, h2, h3, h4, h6 rfl, ?_, fun j p ys hj z => ?_⟩
  · cases q : g.Pr a with
    | none => rfl
    | some u => exact absurd h1 ((k.prot a u q).2.2 i false xs he)
  · rcases get_set hj with ⟨_, q⟩ | ⟨n, q⟩
    · cases q
    · exact n (k.sep i j _ _ _ _ a he q h1 z)
theorem sretC (i : Nat) {x : Str} {p0 : Pos} (hN : X.N[i]? = some x := by rfl) (hv : Vis X.env.scope x := by first | exact Or.inl rfl | exact Or.inr (Or.inl rfl) | exact Or.inr (Or.inr rfl)) (hd : (x == ("__debug__" : Str)) = false := by decide)
    (hcd : (x == ("__classdict__" : Str)) = false := by decide) : PS X (.Return (some (.Name x p0)) pos) (liftS X.K Z m (dRetC m i)) := PS.of (ps_ret (pe_var hN hv hd hcd)) fun D σ H ⟨g, F, env, P, k, w, q⟩ => by
  unfold dRetC at w
  split at w
  · rename_i xs e
    obtain ⟨a, h1, k2, r2⟩ := k.drop e
    exact ⟨_, h1, q.rt _ _ _ σ F H w (Ex.refl F) k2 r2⟩
  · exact w.elim
/-- slots that are not to be known any more -/
def unS : List Nat → List SD → List SD
  | [], env => env
  | i :: is, env => match env[i]? with
    | some (.dat _) => unS is (env.set i .un)
    | some (.cel false _) => unS is (env.set i .un)
    | _ => unS is env
theorem Ok.unS {K : PySem.W.Frag} {g : Gx Z} {F : Hp} {σ : L2.St} {H : Hp} : ∀ {is : List Nat} {env : List SD}, Ok K g F env σ H → Ok K g F (unS is env) σ H
  | [], _, k => k
  | i :: is, env, k => by
    have go : NoPar env i → Ok K g F (env.set i .un) σ H := fun np => by
      by_cases hi : i < σ.length
      · have k2 := k.setU (o := σ[i]) np
        rw [List.set_getElem_self] at k2
        exact k2
      · have k2 := k.setU (o := none) np
        rw [show σ.set i none = σ from List.set_eq_of_length_le (Nat.le_of_not_lt hi)] at k2
        exact k2
    unfold DL.unS
    split
    · rename_i d e
      exact (go fun xs z => by rw [e] at z; cases z).unS
    · rename_i xs e
      exact (go fun ys z => by rw [e] at z; cases z).unS
    · exact k.unS
abbrev dForget (is : List Nat) (w : DS) (E : DEnds) (env : List SD) : Prop := w E (unS is env)
theorem ssforget (is : List Nat) (h : PSs X sts (liftS X.K Z m w)) : PSs X sts (liftS X.K Z m (dForget is w)) := PSs.of h fun D σ H ⟨g, F, env, P, k, w, q⟩ => ⟨g, F, _, P, k.unS, w, q⟩
end
end DL

namespace DL
variable {T : List (PySem.Addr × PySem.Str)} {Z : Zx T}
open PySem PySem.Spec PyProof.Rows L2
open Evl (Ex)

section
variable {X : Cx} {st : Stmt} {sts : List Stmt} {w w2 : DS} {m : Nat} {a b e : Expr} {es : List Expr} {wa wb we : DE} {wx : DX} {pos : Pos} {was : DA}
abbrev DG := PyData → List SD → (List SD → Prop) → Prop
/-- what goes to a target; with b (a tuple as the target) the tuple's object needn't be known -/
def DRw (K : PySem.W.Frag) (b : Bool) (F : Hp) (v : V) (d : PyData) : Prop := DR K F v d ∨ (b = true ∧ ∃ T xs ds, v = .ref T ∧ d = .tuple ds ∧ SqT K F T xs ∧ DRs K F xs ds)
theorem DRw.tup {K : PySem.W.Frag} {b : Bool} {F : Hp} {v : V} {ds : List PyData} (h : DRw K b F v (.tuple ds)) : ∃ a xs, v = .ref a ∧ SqT K F a xs ∧ DRs K F xs ds := by
  rcases h with h | ⟨_, T, xs, es, h1, h2, h3, h4⟩
  · exact h.inv_tup
  · cases h2
    exact ⟨T, xs, h1, h3, h4⟩
theorem DRw.non {K : PySem.W.Frag} {F : Hp} {v : V} {d : PyData} (h : DRw K false F v d) : DR K F v d := by
  rcases h with h | ⟨h, _⟩
  · exact h
  · cases h
def liftG (K : PySem.W.Frag) (Z : Zx T) (b : Bool) (w : DG) : TG := fun v σ H Q => ∃ (g : Gx Z) (F : Hp) (env : List SD) (d : PyData) (P : List SD → Prop), Ok K g F env σ H ∧ DRw K b F v d ∧ w d env P ∧
  ∀ env' σ' F' H', P env' → Ex F F' → Ok K g F' env' σ' H' → Q σ' H'
abbrev DGs := List PyData → List SD → (List SD → Prop) → Prop
def liftGs (K : PySem.W.Frag) (Z : Zx T) (w : DGs) : TGs := fun vs σ H Q => ∃ (g : Gx Z) (F : Hp) (env : List SD) (ds : List PyData) (P : List SD → Prop), Ok K g F env σ H ∧ DRs K F vs ds ∧ w ds env P ∧
  ∀ env' σ' F' H', P env' → Ex F F' → Ok K g F' env' σ' H' → Q σ' H'
theorem PG.of {t t' : TG} (h : PG X e t) (w : ∀ v σ H Q, t' v σ H Q → t v σ H Q) : PG X e t' := ⟨fun pins s σ H v u Q I r q => h.run pins s σ H v u Q I r (w v σ H Q q)⟩
theorem PGs.of {t t' : TGs} (h : PGs X es t) (w : ∀ v σ H Q, t' v σ H Q → t v σ H Q) : PGs X es t' := ⟨fun pins s σ H v u Q I r q => h.run pins s σ H v u Q I r (w v σ H Q q)⟩
def dgN (i : Nat) (d : PyData) (env : List SD) (P : List SD → Prop) : Prop := bIf (noPar env i) (P (env.set i (.dat d))) False
theorem gn (i : Nat) {x : Str} (hN : X.N.Nodup) (hi : X.N[i]? = some x := by rfl) (hx : Loc X.env.scope x := by first | exact Or.inl rfl | exact Or.inr rfl)
    (hf : X.fn x = true ∨ X.env.scope.names.lookup x = some .local := by first | exact .inl rfl | exact .inr rfl) : PG X (.Name x pos) (liftG X.K Z false (dgN i)) := PG.of (pg_name hN hi hx hf) fun v σ H Q ⟨g, F, env, d, P, k, r, w, q⟩ =>
  q _ _ F H (bIf_and w).2 (Ex.refl F) (k.setD (noPar_of (bIf_and w).1) r.non)
def nilQ (ds : List PyData) (p : Prop) : Prop := match ds with
  | [] => p
  | _ :: _ => False
def consQ (ds : List PyData) (K : PyData → List PyData → Prop) : Prop := match ds with
  | d :: r => K d r
  | [] => False
def tupQ (d : PyData) (K : List PyData → Prop) : Prop := match d with
  | .tuple ds => K ds
  | _ => False
theorem nilQ_inv {ds : List PyData} {p : Prop} (h : nilQ ds p) : ds = [] ∧ p := by
  cases ds
  · exact ⟨rfl, h⟩
  · exact h.elim
theorem consQ_inv {ds : List PyData} {K : PyData → List PyData → Prop} (h : consQ ds K) : ∃ d r, ds = d :: r ∧ K d r := by
  cases ds
  · exact h.elim
  · exact ⟨_, _, rfl, h⟩
theorem tupQ_inv {d : PyData} {K : List PyData → Prop} (h : tupQ d K) : ∃ ds, d = .tuple ds ∧ K ds := by
  cases d <;> first | exact ⟨_, rfl, h⟩ | exact h.elim
def dgNil (ds : List PyData) (env : List SD) (P : List SD → Prop) : Prop := nilQ ds (P env)
def dgCons (t : DG) (u : DGs) (ds : List PyData) (env : List SD) (P : List SD → Prop) : Prop := consQ ds fun d r => t d env fun env1 => u r env1 P
theorem gnil : PGs X [] (liftGs X.K Z dgNil) := PGs.of pgs_nil fun v σ H Q ⟨g, F, env, ds, P, k, r, w, q⟩ => by
  obtain ⟨rfl, w⟩ := nilQ_inv w
  cases r
  exact ⟨rfl, q env σ F H w (Ex.refl F) k⟩
theorem gcons {t : DG} {u : DGs} {bb : Bool} (h1 : PG X e (liftG X.K Z bb t)) (h2 : PGs X es (liftGs X.K Z u)) (hs : (assignEach (e :: es) X.env).map (·.2) = assign e X.env :: (assignEach es X.env).map (·.2) := by rfl) : PGs X (e :: es) (liftGs X.K Z (dgCons t u)) :=
  PGs.of (pgs_cons h1 h2 hs) fun v σ H Q ⟨g, F, env, ds, P, k, r, w, q⟩ => by
    obtain ⟨d, r0, rfl, w⟩ := consQ_inv w
    cases r with
    | cons r1 r2 =>
        exact ⟨_, _, rfl, g, F, env, _, _, k, .inl r1, w, fun env1 σ1 F1 H1 p e1 k1 => ⟨g, F1, env1, _, P, k1, r2.mono e1, p, fun env2 σ2 F2 H2 p2 e2 k2 => q env2 σ2 F2 H2 p2 (e1.trans e2) k2⟩⟩
def dgT (n : Nat) (t : DGs) (d : PyData) (env : List SD) (P : List SD → Prop) : Prop := tupQ d fun ds => t ds env P
/-- a target that takes a datum goes on -/
def GOk (t : DG) : Prop := ∀ d env P, t d env P → ∃ env1, P env1
def GLen (t : DGs) (n : Nat) : Prop := ∀ ds env P, t ds env P → ds.length = n ∧ ∃ env1, P env1
theorem gok_n {i : Nat} : GOk (dgN i) := fun d env P h => ⟨_, (bIf_and h).2⟩
theorem gl_nil : GLen dgNil 0 := fun ds env P h => by
  obtain ⟨rfl, h⟩ := nilQ_inv h
  exact ⟨rfl, env, h⟩
theorem gl_cons {t : DG} {u : DGs} {n : Nat} (h1 : GOk t) (h2 : GLen u n) : GLen (dgCons t u) (n + 1) := fun ds env P h => by
  obtain ⟨d, r, rfl, h⟩ := consQ_inv h
  obtain ⟨env1, h⟩ := h1 _ _ _ h
  obtain ⟨e, h⟩ := h2 _ _ _ h
  exact ⟨by simp [e], h⟩
theorem gtup {k n : Nat} {t : DGs} (hl : GLen t n) (hc : X.calm = true) (h : PGs X es (liftGs X.K Z t)) (hn : (assignEach es X.env).length = n := by rfl) (hst : (assignEach es X.env).findIdx? (·.1) = none := by rfl) : PG X (.Tuple es k pos) (liftG X.K Z true (dgT n t)) :=
  PG.of (pg_tup hc h hn hst) fun v σ H Q ⟨g, F, env, d, P, k, r, w, q⟩ => by
    obtain ⟨ds, rfl, w⟩ := tupQ_inv w
    obtain ⟨a, xs, rfl, h1, h2⟩ := r.tup
    exact ⟨a, xs, rfl, Evl.ex_t k.fh h1, h2.length.trans (hl _ _ _ w).1, g, F, env, _, P, k, h2, w, q⟩
/-- target = e, of a datum -/
abbrev dAsg (t : DG) (we : DE) (E : DEnds) (env : List SD) : Prop := we env fun d env1 => t d env1 E.nx
theorem sasg {tg : Expr} {t : DG} {bb : Bool} (he : PE X e (liftE X.K Z we)) (hg : PG X tg (liftG X.K Z bb t)) (hs : swapsWithSole [tg] e pos.line X.env = pure false := by rfl) (hw : swappedStores [tg] e X.env = pure none := by rfl)
    (h1 : (assignEach [tg] X.env).map (·.2) = [assign tg X.env] := by rfl) : PS X (.Assign [tg] e pos) (liftS X.K Z m (dAsg t we)) := PS.of (ps_asg he hg hs hw h1) fun D σ H ⟨g, F, env, P, k, w, q⟩ =>
  ⟨g, F, env, _, k, w, fun d env1 v F1 H1 p e1 k1 r1 => ⟨g, F1, env1, d, _, k1, .inl r1, p, fun env2 σ2 F2 H2 p2 e2 k2 => q.nx env2 σ2 F2 H2 p2 (e1.trans e2) k2⟩⟩
/-- x[i] = e, x the name's own cell -/
def stQ (xs : List PyData) (y d : PyData) (K : List PyData → Prop) : Prop := match y with
  | .int n => (match ixN xs.length n with
    | some j => K (xs.set j d)
    | none => False)
  | _ => False
abbrev dSetC (i : Nat) (wi we : DE) (E : DEnds) (env : List SD) : Prop := we env fun d env1 => match env1[i]? with
  | some (.cel _ _) => wi env1 fun y env2 => match env2[i]? with
    | some (.cel p xs) => stQ xs y d fun xs' => E.nx (env2.set i (.cel p xs'))
    | _ => False
  | _ => False
theorem ssetC (i : Nat) {x : Str} {p0 p1 : Pos} (he : PE X e (liftE X.K Z we)) (hi : PE X b (liftE X.K Z wb)) (hN : X.N[i]? = some x := by rfl) (hv : Vis X.env.scope x := by first | exact Or.inl rfl | exact Or.inr (Or.inl rfl) | exact Or.inr (Or.inr rfl)) (hd : (x == ("__debug__" : Str)) = false := by decide)
    (hcd : (x == ("__classdict__" : Str)) = false := by decide)
    (hs : swapsWithSole [.Subscript (.Name x p0) b p1] e pos.line X.env = pure false := by rfl) (hw : swappedStores [.Subscript (.Name x p0) b p1] e X.env = pure none := by rfl)
    (h1 : (assignEach [.Subscript (.Name x p0) b p1] X.env).map (·.2) = [assign (.Subscript (.Name x p0) b p1) X.env] := by rfl)
    (ha : ∀ v, assign (.Subscript (.Name x p0) b p1) X.env v = (do
      let ov ← holding [v] (eval (.Name x p0) X.env)
      let iv ← holding [v, ov] (eval b X.env)
      standAt p1
      holding [v, ov, iv] (setItem ov iv v)
      release [v, ov, iv] []) := by intro _; rfl) : PS X (.Assign [.Subscript (.Name x p0) b p1] e pos) (liftS X.K Z m (dSetC i wb we)) :=
  PS.of (ps_asg he (pg_sub (pe_var hN hv hd hcd) hi set_list ha) hs hw h1) fun D σ H ⟨g, F, env, P, k, w, q⟩ =>
  ⟨g, F, env, _, k, w, fun d env1 v F1 H1 p e1 k1 r1 => by
    split at p
    · rename_i p' xs' ex
      obtain ⟨a0, us0, b1, _⟩ := k1.cel i p' xs' ex
      refine ⟨_, b1, g, F1, env1, _, k1, p, fun d2 env2 v2 F2 H2 p2 e2 k2 r2 => ?_⟩
      split at p2
      · rename_i p3 xs ex2
        obtain ⟨n, rfl, p2⟩ : ∃ n, d2 = .int n ∧ stQ xs (.int n) d _ := by
          cases d2 <;> first | exact ⟨_, rfl, p2⟩ | exact p2.elim
        cases r2.inv_int
        unfold stQ at p2
        dsimp only at p2
        split at p2
        · rename_i j ej
          obtain ⟨a1, us1, c1, c2, c3, c4, _⟩ := k2.cel i p3 xs ex2
          rw [b1] at c1
          cases c1
          exact ⟨a0, us1, n, j, rfl, rfl, c3, by rw [c4.length]; exact ej, q.nx _ σ F2 _ p2 (e1.trans e2) (k2.write ex2 b1 (c4.set j (r1.mono e2)))⟩
        · exact p2.elim
      · exact p2.elim
    · exact p.elim⟩
/-- x.append(e) -/
def apQ (xs : List PyData) (d : PyData) (K : List PyData → Prop) : Prop := xs.length < 100000 ∧ K (xs ++ [d])
abbrev dApp (i : Nat) (we : DE) (E : DEnds) (env : List SD) : Prop := match env[i]? with
  | some (.cel _ _) => we env fun d env1 => match env1[i]? with
    | some (.cel p xs) => apQ xs d fun xs' => E.nx (env1.set i (.cel p xs'))
    | _ => False
  | _ => False
theorem sapp (i : Nat) {x : Str} {p0 apos cpos : Pos} (he : PE X e (liftE X.K Z we)) (hN : X.N[i]? = some x := by rfl) (hv : Vis X.env.scope x := by first | exact Or.inl rfl | exact Or.inr (Or.inl rfl) | exact Or.inr (Or.inr rfl)) (hd : (x == ("__debug__" : Str)) = false := by decide)
    (hcd : (x == ("__classdict__" : Str)) = false := by decide)
    (h1 : attributeBase (.Name x p0) "append" X.env (eval (.Name x p0) X.env) = eval (.Name x p0) X.env := by rfl)
    (h2 : ((backTo cpos (starEach [e] X.env)).all (!·.1) && (backToKw cpos (keywordEach [] X.env)).all (·.1.isSome) && decide ([e].length + ([] : List Keyword).length + (if ([] : List Keyword).isEmpty then 0 else 1) < 30)) = true := by rfl)
    (h3 : (apos.endLine == cpos.line) = true := by rfl)
    (h4 : starEach [e] X.env = (false, eval e X.env) :: starEach [] X.env := by rfl) (h5 : (backTo cpos (starEach [] X.env)).any (·.1) = false := by rfl)
    (hs : swapsWith (.Call (.Attribute (.Name x p0) "append" apos) [e] [] cpos) none pos.line X.env = pure false := by rfl) :
    PS X (.Expr (.Call (.Attribute (.Name x p0) "append" apos) [e] [] cpos) pos) (liftS X.K Z m (dApp i we)) :=
  PS.of (ps_expr (pe_bm PySem.F.plainAttrs_list PySem.F.slot_list_append PySem.F.type_list_append mt_append (pe_var hN hv hd hcd) (pa_cons he pa_nil h4) h1 h2 h3 h4 h5) hs) fun D σ H ⟨g, F, env, P, k, w, q⟩ => by
    unfold dApp at w
    split at w
    · rename_i p' xs' ex
      obtain ⟨a0, us0, b1, _, b3, _⟩ := k.cel i p' xs' ex
      refine ⟨_, b1, .inl ⟨rfl, us0, SqL.of b3⟩, g, F, env, _, k, w, fun d env1 v F1 H1 p e1 k1 r1 => ?_⟩
      split at p
      · rename_i p3 xs ex2
        obtain ⟨a1, us1, c1, c2, c3, c4, _⟩ := k1.cel i p3 xs ex2
        rw [b1] at c1
        cases c1
        exact ⟨a0, us1, v, rfl, rfl, c3, by rw [c4.length]; exact Evl.sz_lt p.1, q.nx _ σ F1 _ p.2 e1 (k1.write ex2 b1 (c4.append (.one r1)))⟩
      · exact p.elim
    · exact w.elim
abbrev RT := SD → List SD → Prop
def decP {I S : Type} (is : List Nat) (dec : List SD → Option (I × S)) (N : I → S → Prop) (env : List SD) : Prop := match dec (unS is env) with
  | some (i, s) => N i s
  | none => False
theorem decP_inv {I S : Type} {is : List Nat} {dec : List SD → Option (I × S)} {N : I → S → Prop} {env : List SD} (h : decP is dec N env) : ∃ i s, dec (unS is env) = some (i, s) ∧ N i s := by
  unfold decP at h
  split at h
  · exact ⟨_, _, ‹_›, h⟩
  · exact h.elim
/-- the state behind: what a loop doesn't change stays -/
def same {I S : Type} (i : I) (N : S → Prop) (i' : I) (s : S) : Prop := i' = i ∧ N s
def qWhileN {I S : Type} (b : I → S → (I → S → Prop) → (I → S → Prop) → Prop) (i : I) : Nat → S → (S → Prop) → Prop
  | 0, _, _ => False
  | n + 1, s, K => b i s (same i fun s => qWhileN b i n s K) (same i K)
def qWhile {I S : Type} (b : I → S → (I → S → Prop) → (I → S → Prop) → Prop) (i : I) (s : S) (K : S → Prop) : Prop := ∃ n, qWhileN b i n s K
abbrev dWhileQ {κ I S : Type} (is : List Nat) (dec : List SD → Option (I × S)) (emb : I → S → List SD) (kk : RT → κ) (qb : κ → I → S → (I → S → Prop) → (I → S → Prop) → Prop) (E : DEnds) (env : List SD) : Prop :=
  decP is dec (fun i s => qWhile (qb (kk E.rt)) i s fun s => E.nx (emb i s)) env
theorem swhileQ {κ I S : Type} (is : List Nat) (dec : List SD → Option (I × S)) (emb : I → S → List SD) (kk : RT → κ) (qb : κ → I → S → (I → S → Prop) → (I → S → Prop) → Prop)
    (hde : ∀ env i s, dec env = some (i, s) → env = emb i s) {c : Expr} {body : List Stmt} {t : DT} (hp : PassesOwn (model X.prog X.w) X.A X.env X.xe) (hc : PT X c (liftT X.K Z t)) (hb : PSs X body (liftS X.K Z m w))
    (hq : ∀ (R : RT) (i : I) (s : S) (nx bk : I → S → Prop), qb (kk R) i s nx bk → t (emb i s) fun b env1 => bIf b (w { nx := decP is dec nx, ct := decP is dec nx, bk := decP is dec bk, rt := R } env1) (decP is dec bk env1)) :
    PS X (.While c body [] pos) (liftS X.K Z m (dWhileQ is dec emb kk qb)) :=
  PS.of (ps_while hp hc hb) fun D σ H ⟨g, F, env, P, k, w0, q⟩ => by
    obtain ⟨i0, s0, d0, n, w0⟩ := decP_inv w0
    have fin : ∀ {env' : List SD} {σ' : L2.St} {F' H' : Hp}, decP is dec (same i0 fun s => P.nx (emb i0 s)) env' → Ex F F' → Ok X.K g F' env' σ' H' → D.nx σ' H' := fun {env' σ' F' H'} p e k => by
      obtain ⟨i, s, d, rfl, p⟩ := decP_inv p
      have k2 := k.unS (is := is)
      rw [hde _ _ _ d] at k2
      exact q.nx _ _ _ _ p e k2
    refine ⟨fun m σ' H' => ∃ env' F', Ex F F' ∧ Ok X.K g F' env' σ' H' ∧ decP is dec (same i0 fun s => qWhileN (qb (kk P.rt)) i0 m s fun s => P.nx (emb i0 s)) env', ⟨n, env, F, Ex.refl F, k, by unfold decP; rw [d0]; exact ⟨rfl, w0⟩⟩, fun m σ' H' ⟨env', F', e1, k1, w1⟩ => ?_⟩
    obtain ⟨i, s, d, rfl, w1⟩ := decP_inv w1
    have k2 := k1.unS (is := is)
    rw [hde _ _ _ d] at k2
    cases m with
    | zero => exact w1.elim
    | succ m =>
      refine ⟨g, F', _, _, k2, hq P.rt i s _ _ w1, fun b env2 F2 H2 p2 e2 k2 => ?_⟩
      cases b with
      | false => exact iteF (fin p2 (e1.trans e2) k2)
      | true =>
        refine iteT ⟨fun σ3 H3 => ∃ env' F', Ex F F' ∧ Ok X.K g F' env' σ3 H3 ∧ decP is dec (same i fun s => qWhileN (qb (kk P.rt)) i m s fun s => P.nx (emb i s)) env', fun σ3 H3 h3 => ⟨m, Nat.lt_succ_self m, h3⟩, g, F2, env2, _, k2, p2, ?_⟩
        have e12 := e1.trans e2
        exact .mk4 (.mk (fun env3 σ3 F3 H3 p3 e3 k3 => ⟨env3, F3, e12.trans e3, k3, p3⟩) (fun env3 σ3 F3 H3 p3 e3 k3 => fin p3 (e12.trans e3) k3) (fun env3 σ3 F3 H3 p3 e3 k3 => ⟨env3, F3, e12.trans e3, k3, p3⟩) (fun r env3 v σ3 F3 H3 p3 e3 k3 r3 => q.rt r env3 v σ3 F3 H3 p3 (e12.trans e3) k3 r3)) rfl
abbrev DI := List SD → (List PyData → List SD → Prop) → Prop
def Yld (K : PySem.W.Frag) (b : Bool) (F H : Hp) (x : V) (H' : Hp) (d : PyData) : Prop := (H' = H ∧ DR K F x d) ∨ b = true ∧ ∃ T xs ds, x = .ref T ∧ H T = none ∧ H' = upd H T (.tup xs) ∧ d = .tuple ds ∧ DRs K F xs ds
structure WalkD (K : PySem.W.Frag) (b : Bool) (F : Hp) (J : It) (items : List PyData) : Prop where
  ex : ∃ G Y, Walk J items.length G Y ∧ (∀ H, Ex F H → G H) ∧ ∀ i H x H' d, Ex F H → items[i]? = some d → Y i H x H' → Yld K b F H x H' d
def liftI (K : PySem.W.Frag) (Z : Zx T) (b : Bool) (w : DI) : TI := fun σ H R => ∃ (g : Gx Z) (F : Hp) (env : List SD) (P : List PyData → List SD → Prop), Ok K g F env σ H ∧ w env P ∧
  ∀ items env' J F' H', P items env' → Ex F F' → Ok K g F' env' σ H' → WalkD K b F' J items → R J H'
theorem PI.of {tg e : Expr} {t t' : TI} (h : PI X tg e t) (w : ∀ σ H R, t' σ H R → t σ H R) : PI X tg e t' := ⟨fun pins s σ H R I q => h.run pins s σ H R I (w σ H R q)⟩
theorem Ok.yld {K : PySem.W.Frag} {b : Bool} {g : Gx Z} {F F0 : Hp} {env : List SD} {σ : L2.St} {H H' : Hp} {x : V} {d : PyData} (k : Ok K g F env σ H) (e : Ex F0 F) (y : Yld K b F0 H x H' d) : ∃ F', Ex F F' ∧ Ok K g F' env σ H' ∧ DRw K b F' x d := by
  rcases y with ⟨rfl, r⟩ | ⟨hb, T, xs, ds, rfl, hT, rfl, rfl, r⟩
  · exact ⟨F, Ex.refl F, k, .inl (r.mono e)⟩
  · have ex : Ex F (upd F T (.tup xs)) := Ex.new (fnone k.fh hT)
    exact ⟨_, ex, k.alloc hT, .inr ⟨hb, T, xs, ds, rfl, rfl, SqT.of upd_same, (r.mono e).mono ex⟩⟩
/-- lo, lo + 1, .. -/
def rangeD (lo : Int) (n : Nat) : List PyData := (List.range n).map fun (i : Nat) => .int (lo + i)
theorem walkD_range {K : PySem.W.Frag} {b : Bool} {F : Hp} (lo : Int) (n : Nat) : WalkD K b F (Itr lo n) (rangeD lo n) := by
  refine ⟨fun _ => True, YFn fun i => .int (lo + i), by rw [show (rangeD lo n).length = n by simp [rangeD]]; exact walk_range, fun _ _ => trivial, fun i H x H' d _ e y => .inl ⟨y.1, ?_⟩⟩
  have y2 := y.2
  subst y2
  unfold rangeD at e
  rw [List.getElem?_map] at e
  by_cases hi : i < n
  · rw [List.getElem?_range hi] at e
    cases e
    exact .int _
  · rw [List.getElem?_eq_none (by simp; omega)] at e
    cases e
abbrev QI := List PyData → (List PyData → Prop) → Prop
/-- what is walked, by arguments -/
abbrev dIt (f : QI) (was : DA) (env : List SD) (P : List PyData → List SD → Prop) : Prop := was env fun ds env' => f ds fun items => P items env'
/-- K of l, sealed: the kernel doesn't look at what is walked -/
inductive At (l : List PyData) (K : List PyData → Prop) : Prop
  | mk : K l → At l K
theorem At.out {l : List PyData} {K : List PyData → Prop} (h : At l K) : K l := by
  cases h with
  | mk h => exact h
theorem At.eq {l : List PyData} {K : List PyData → Prop} : At l K = K l := propext ⟨At.out, At.mk⟩
def rng1 (ds : List PyData) (K : List PyData → Prop) : Prop := match ds with
  | [.int n] => (-1000000 ≤ n ∧ n ≤ 1000000) ∧ At (rangeD 0 n.toNat) K
  | _ => False
def rng2 (ds : List PyData) (K : List PyData → Prop) : Prop := match ds with
  | [.int m, .int n] => (-1000000 ≤ m ∧ m ≤ 1000000 ∧ -1000000 ≤ n ∧ n ≤ 1000000) ∧ At (rangeD m (n - m).toNat) K
  | _ => False
theorem irange1 {tg : Expr} {bb : Bool} {p : Pos} (hm : X.mg "range" = none) (ha : PA X [a] (liftA X.K Z was)) (hg : Gl X "range" := by rfl) (hs : starEach [a] X.env = [(false, eval a X.env)] := by rfl) : PI X tg (.Call (.Name "range" p) [a] [] pos) (liftI X.K Z bb (dIt rng1 was)) :=
  PI.of (pi_range1 hg hm ha hs) fun σ H R ⟨g, F, env, P, k, w, q⟩ => ⟨g, F, env, _, k, w, fun ds env1 vs F1 H1 p e1 k1 r1 => by
    unfold rng1 at p
    split at p
    · obtain ⟨v, rfl, r2⟩ := r1.inv1
      cases r2.inv_int
      have p1 := p.1
      exact ⟨_, rfl, by omega, by omega, q _ env1 _ F1 H1 p.2.out e1 k1 (walkD_range 0 _)⟩
    · exact p.elim⟩
theorem irange2 {tg : Expr} {bb : Bool} {p : Pos} (hm : X.mg "range" = none) (ha : PA X [a, b] (liftA X.K Z was)) (hg : Gl X "range" := by rfl) (hs : starEach [a, b] X.env = [(false, eval a X.env), (false, eval b X.env)] := by rfl) (hs2 : starEach [b] X.env = [(false, eval b X.env)] := by rfl) :
    PI X tg (.Call (.Name "range" p) [a, b] [] pos) (liftI X.K Z bb (dIt rng2 was)) :=
  PI.of (pi_range2 hg hm ha hs hs2) fun σ H R ⟨g, F, env, P, k, w, q⟩ => ⟨g, F, env, _, k, w, fun ds env1 vs F1 H1 p e1 k1 r1 => by
    unfold rng2 at p
    split at p
    · obtain ⟨v, u, rfl, r2, r3⟩ := r1.inv2
      cases r2.inv_int
      cases r3.inv_int
      have p1 := p.1
      exact ⟨_, _, rfl, ⟨by omega, by omega, by omega, by omega⟩, q _ env1 _ F1 H1 p.2.out e1 k1 (walkD_range _ _)⟩
    · exact p.elim⟩
theorem walkD_list {K : PySem.W.Frag} {bb : Bool} {F : Hp} {a : Addr} {xs : List V} {ds : List PyData} (h : RdL K F a xs) (r : DRs K F xs ds) : WalkD K bb F (Itl K a) ds :=
  ⟨fun H => SqL K H a xs, YAt xs, by rw [← r.length]; exact walk_list (xs := xs), fun H e => (h.mono e).sq, fun i H x H' d _ e y => .inl ⟨y.1, by
    obtain ⟨v, h1, h2⟩ := r.get e
    have y2 := y.2
    rw [h1] at y2
    cases y2
    exact h2⟩⟩
theorem walkD_tup {K : PySem.W.Frag} {bb : Bool} {F : Hp} {a : Addr} {xs : List V} {ds : List PyData} (h : SqT K F a xs) (r : DRs K F xs ds) : WalkD K bb F (Itt K a) ds :=
  ⟨fun H => SqT K H a xs, YAt xs, by rw [← r.length]; exact walk_tup (xs := xs), fun H e => Evl.ex_t e h, fun i H x H' d _ e y => .inl ⟨y.1, by
    obtain ⟨v, h1, h2⟩ := r.get e
    have y2 := y.2
    rw [h1] at y2
    cases y2
    exact h2⟩⟩
/-- a text's signs -/
@[irreducible] def signsD (x : Str) : List PyData := x.cps.toList.map fun c => .str ⟨#[c]⟩
theorem walkD_str {K : PySem.W.Frag} {bb : Bool} {F : Hp} (x : Str) : WalkD K bb F (Its x) (signsD x) :=
  ⟨fun _ => True, fun i H v H' => H' = H ∧ ∃ c, x.cps[i]? = some c ∧ v = .str ⟨#[c]⟩, by rw [show (signsD x).length = x.cps.size by unfold signsD; simp]; exact walk_str, fun _ _ => trivial, fun i H v H' d _ e y => .inl ⟨y.1, by
    obtain ⟨c, h1, rfl⟩ := y.2
    unfold signsD at e
    rw [List.getElem?_map, Array.getElem?_toList, h1] at e
    cases e
    exact .str _⟩⟩
/-- over a list, a tuple or a text -/
def iSeq (K : PySem.W.Frag) (tl : TE) : TI := fun σ H R => tl σ H fun x H1 => (∃ a, x = .ref a ∧ ((∃ xs, SqL K H1 a xs ∧ R (Itl K a) H1) ∨ ∃ xs, SqT K H1 a xs ∧ R (Itt K a) H1)) ∨ ∃ z, x = .str z ∧ R (Its z) H1
theorem pi_seq {tg l : Expr} {tl : TE} (hl : PE X l tl) : PI X tg l (iSeq X.K tl) := by
  refine ⟨fun pins s σ H R I h => thn (hl.run pins s σ H _ I h) fun v s1 ⟨x, H1, I1, r1, q1⟩ => ?_⟩
  rcases q1 with ⟨a, ea, q1⟩ | ⟨z, ez, q⟩
  · subst ea
    cases r1
    have fo : ∀ b ∈ [s1.heap.objs.size], FpOk X pins H1 b := fun b hb => by
      rw [List.mem_singleton.mp hb]
      exact I1.fpOk (Nat.le_refl _) (I1.hok.fresh (Nat.le_refl _))
    rcases q1 with ⟨xs, hq, q⟩ | ⟨xs, hq, q⟩
    · obtain ⟨its, rv, pl, hz⟩ := I1.list hq
      exact wpAny_pyIter_list pl.isList ⟨s1.heap.objs.size, [s1.heap.objs.size], _, _, H1, rfl, I1.kept (t' := s1.toks) (fun b o e => Heap.get?_push_of_some _ e), turn_list a _, ⟨_, Heap.get?_push_size _ rfl, rfl, rfl⟩, fo, q⟩
    · obtain ⟨its, rv, pl, hz⟩ := I1.tuple hq
      exact wpAny_pyIter_tuple (show s1.heap.IsTuple a its.toArray from pl) ⟨s1.heap.objs.size, [s1.heap.objs.size], _, _, H1, rfl, I1.kept (t' := s1.toks) (fun b o e => Heap.get?_push_of_some _ e), turn_tuple a _, ⟨_, Heap.get?_push_size _ rfl, rfl, rfl⟩, fo, q⟩
  · subst ez
    obtain ⟨t, rfl⟩ := r1
    cases ha : z.cps.all (· < 128)
    · exact wpAny_pyIter_wide ha (pi_one (tk := s1.toks) I1 _ (turn_str _ z t "str_iterator" (.inr rfl)) ⟨_, Heap.get?_push_size _ rfl, rfl, rfl⟩ q)
    · exact wpAny_pyIter_ascii ha (pi_one (tk := s1.toks) I1 _ (turn_str _ z t "str_ascii_iterator" (.inl rfl)) ⟨_, Heap.get?_push_size _ rfl, rfl, rfl⟩ q)
def itemsQ (d : PyData) (K : List PyData → Prop) : Prop := match d with
  | .list ds => At ds K
  | .tuple ds => At ds K
  | .str x => At (signsD x) K
  | _ => False
abbrev dItF (f : PyData → (List PyData → Prop) → Prop) (we : DE) (env : List SD) (P : List PyData → List SD → Prop) : Prop := we env fun d env' => f d fun ds => P ds env'
theorem iseq {tg : Expr} {bb : Bool} (he : PE X e (liftE X.K Z we)) : PI X tg e (liftI X.K Z bb (dItF itemsQ we)) := PI.of (pi_seq he) fun σ H R ⟨g, F, env, P, k, w, q⟩ => ⟨g, F, env, _, k, w, fun d env1 v F1 H1 p e1 k1 r1 => by
  unfold itemsQ at p
  split at p
  · obtain ⟨a, xs, rfl, h1, h2⟩ := r1.inv_lst
    exact .inl ⟨a, rfl, .inl ⟨xs, (h1.mono k1.fh).sq, q _ env1 _ F1 H1 p.out e1 k1 (walkD_list h1 h2)⟩⟩
  · obtain ⟨a, xs, rfl, h1, h2⟩ := r1.inv_tup
    exact .inl ⟨a, rfl, .inr ⟨xs, Evl.ex_t k1.fh h1, q _ env1 _ F1 H1 p.out e1 k1 (walkD_tup h1 h2)⟩⟩
  · cases r1.inv_str
    exact .inr ⟨_, rfl, q _ env1 _ F1 H1 p.out e1 k1 (walkD_str _)⟩
  · exact p.elim⟩
/-- zip of two lists, of two tuples -/
def zipD : List PyData → List PyData → List PyData
  | x :: xs, y :: ys => .tuple [x, y] :: zipD xs ys
  | _, _ => []
def zipQ (ds : List PyData) (K : List PyData → Prop) : Prop := match ds with
  | [.list xs, .list ys] => At (zipD xs ys) K
  | [.tuple xs, .tuple ys] => At (zipD xs ys) K
  | _ => False
def qFor {I S : Type} (b : PyData → I → S → (I → S → Prop) → (I → S → Prop) → Prop) (i : I) : List PyData → S → (S → Prop) → Prop
  | [], s, K => K s
  | d :: r, s, K => b d i s (same i fun s => qFor b i r s K) (same i K)
abbrev dForQ {κ I S : Type} (is : List Nat) (dec : List SD → Option (I × S)) (emb : I → S → List SD) (kk : RT → κ) (qb : κ → PyData → I → S → (I → S → Prop) → (I → S → Prop) → Prop) (wi : DI) (E : DEnds) (env : List SD) : Prop :=
  wi env fun items env1 => decP is dec (fun i s => qFor (qb (kk E.rt)) i items s fun s => E.nx (emb i s)) env1
theorem sforQ {κ I S : Type} (is : List Nat) (dec : List SD → Option (I × S)) (emb : I → S → List SD) (kk : RT → κ) (qb : κ → PyData → I → S → (I → S → Prop) → (I → S → Prop) → Prop)
    (hde : ∀ env i s, dec env = some (i, s) → env = emb i s) {tg iter : Expr} {body : List Stmt} {wi : DI} {t : DG} {bb : Bool} (hp : PassesOwn (model X.prog X.w) X.A X.env X.xe) (hc : X.calm = true) (hi : PI X tg iter (liftI X.K Z bb wi)) (hg : PG X tg (liftG X.K Z bb t)) (hb : PSs X body (liftS X.K Z m w))
    (hq : ∀ (R : RT) (d : PyData) (i : I) (s : S) (nx bk : I → S → Prop), qb (kk R) d i s nx bk → t d (emb i s) fun env1 => w { nx := decP is dec nx, ct := decP is dec nx, bk := decP is dec bk, rt := R } env1)
    (hs : ∀ x, foldedSetIterable iter X.env x = pure x := by intro _; rfl) : PS X (.For tg iter body [] pos) (liftS X.K Z m (dForQ is dec emb kk qb wi)) :=
  PS.of (ps_for hp hc hi hg hb hs) fun D σ H ⟨g, F, env, P, k, w0, q⟩ => ⟨g, F, env, _, k, w0, fun items env1 J F1 H1 p e1 k1 ⟨G, Y, wk, hG, hY⟩ => by
    have q := q.ex e1
    obtain ⟨i0, s0, d0, p⟩ := decP_inv p
    have fin : ∀ {env' : List SD} {σ' : L2.St} {F' H' : Hp}, decP is dec (same i0 fun s => P.nx (emb i0 s)) env' → Ex F1 F' → Ok X.K g F' env' σ' H' → D.nx σ' H' := fun {env' σ' F' H'} p e k => by
      obtain ⟨i, s, d, rfl, p⟩ := decP_inv p
      have k2 := k.unS (is := is)
      rw [hde _ _ _ d] at k2
      exact q.nx _ _ _ _ p e k2
    refine for_it wk (fun j σ' H' => ∃ env' F', Ex F1 F' ∧ Ok X.K g F' env' σ' H' ∧ decP is dec (same i0 fun s => qFor (qb (kk P.rt)) i0 (items.drop j) s fun s => P.nx (emb i0 s)) env') ⟨env1, F1, Ex.refl F1, k1, by unfold decP; rw [d0]; exact ⟨rfl, p⟩⟩ (fun i σ' H' _ ⟨env', F', e2, k2, _⟩ => hG H' (e2.trans k2.fh)) (fun j x σ' H' H2 hj ⟨env', F', e2, k2, w2⟩ y => ?_) fun σ' H' ⟨env', F', e2, k2, w2⟩ => ?_
    · obtain ⟨i, s, de, rfl, w3⟩ := decP_inv w2
      have k2 := k2.unS (is := is)
      rw [hde _ _ _ de] at k2
      have hd : items.drop j = items[j] :: items.drop (j + 1) := List.drop_eq_getElem_cons hj
      rw [hd] at w3
      obtain ⟨F3, e3, k3, r3⟩ := k2.yld e2 (hY j H' x H2 items[j] (e2.trans k2.fh) (by simp [hj]) y)
      have e13 := e2.trans e3
      refine ⟨g, F3, _, _, _, k3, r3, hq P.rt _ i s _ _ w3, fun env4 σ4 F4 H4 p4 e4 k4 => ⟨g, F4, env4, _, k4, p4, ?_⟩⟩
      have e14 := e13.trans e4
      exact .mk4 (.mk (fun env5 σ5 F5 H5 p5 e5 k5 => ⟨env5, F5, e14.trans e5, k5, p5⟩) (fun env5 σ5 F5 H5 p5 e5 k5 => fin p5 (e14.trans e5) k5) (fun env5 σ5 F5 H5 p5 e5 k5 => ⟨env5, F5, e14.trans e5, k5, p5⟩) (fun r env5 v σ5 F5 H5 p5 e5 k5 r5 => q.rt r env5 v σ5 F5 H5 p5 (e14.trans e5) k5 r5)) rfl
    · rw [List.drop_length] at w2
      exact fin w2 e2 k2⟩
end
end DL

namespace DL
variable {T : List (PySem.Addr × PySem.Str)} {Z : Zx T}
open PySem PySem.Spec PyProof.Rows L2
open Evl (Ex)

def wipeD (env : List SD) : List Nat → List SD
  | [] => env
  | v :: vs => (wipeD env vs).set v .un
def setAll (σ : L2.St) : List Nat → List V → L2.St
  | i :: is, v :: vs => setAll (σ.set i (some v)) is vs
  | _, _ => σ
def setAllD (env : List SD) : List Nat → List PyData → List SD
  | i :: is, d :: ds => setAllD (env.set i (.dat d)) is ds
  | _, _ => env
theorem wipe_get (σ : L2.St) : ∀ (vs : List Nat) (j : Nat), (wipe σ vs)[j]? = if j ∈ vs then (σ[j]?).map (fun _ => none) else σ[j]?
  | [], j => by simp [wipe]
  | v :: vs, j => by
    unfold wipe
    rw [List.getElem?_set]
    by_cases h : v = j
    · subst h
      rw [if_pos rfl, if_pos List.mem_cons_self, wipe_length]
      by_cases hl : v < σ.length
      · rw [if_pos hl]
        simp [hl]
      · rw [if_neg hl]
        simp [Nat.le_of_not_lt hl]
    · rw [if_neg h, wipe_get σ vs j]
      by_cases hj : j ∈ vs
      · rw [if_pos hj, if_pos (List.mem_cons_of_mem _ hj)]
      · rw [if_neg hj, if_neg (fun z => (List.mem_cons.mp z).elim (fun z => h z.symm) hj)]
theorem wipe_set {σ : L2.St} {vs : List Nat} {i : Nat} {o : Option V} (h : i ∈ vs) : wipe (σ.set i o) vs = wipe σ vs := List.ext_getElem? fun j => by
  rw [wipe_get, wipe_get]
  by_cases hj : j ∈ vs
  · rw [if_pos hj, if_pos hj, List.getElem?_set]
    by_cases e : i = j
    · subst e
      rw [if_pos rfl]
      by_cases hl : i < σ.length
      · simp [hl]
      · rw [if_neg hl]
        simp [Nat.le_of_not_lt hl]
    · rw [if_neg e]
  · have ne : i ≠ j := fun e => by subst e; exact hj h
    rw [if_neg hj, if_neg hj, List.getElem?_set, if_neg ne]
theorem wipe_all {vs : List Nat} : ∀ {is : List Nat} {us : List V} {σ : L2.St}, (∀ i ∈ is, i ∈ vs) → wipe (setAll σ is us) vs = wipe σ vs
  | [], _, _, _ => by simp [setAll]
  | i :: is, [], _, _ => by simp [setAll]
  | i :: is, u :: us, σ, h => by
    unfold setAll
    rw [wipe_all (fun j hj => h j (List.mem_cons_of_mem _ hj)), wipe_set (h i List.mem_cons_self)]
theorem wipe_wipe {vs : List Nat} {σ : L2.St} : wipe (wipe σ vs) vs = wipe σ vs := List.ext_getElem? fun j => by
  rw [wipe_get, wipe_get]
  by_cases hj : j ∈ vs
  · rw [if_pos hj, if_pos hj]
    cases σ[j]? <;> rfl
  · rw [if_neg hj, if_neg hj]
section
variable {K : PySem.W.Frag} {g : Gx Z} {F F' : Hp} {env : List SD} {σ : L2.St} {H : Hp}
theorem noPar_un {env : List SD} {i j : Nat} {r : SD} (h : NoPar env j) (hr : ∀ xs, r ≠ .cel true xs) : NoPar (env.set i r) j := fun xs e => by
  rcases get_set e with ⟨_, q⟩ | ⟨_, q⟩
  · exact hr xs q.symm
  · exact h xs q
theorem noPar_wipe {env : List SD} {j : Nat} (h : NoPar env j) : ∀ vs : List Nat, NoPar (wipeD env vs) j
  | [] => h
  | v :: vs => noPar_un (noPar_wipe h vs) (fun _ z => by cases z)
theorem Ok.wiped (k : Ok K g F env σ H) : ∀ {vs : List Nat}, (∀ v ∈ vs, NoPar env v) → Ok K g F (wipeD env vs) (wipe σ vs) H
  | [], _ => k
  | v :: vs, h => (k.wiped (vs := vs) fun u hu => h u (List.mem_cons_of_mem _ hu)).setU (noPar_wipe (h v List.mem_cons_self) vs)
theorem Ok.setAll : ∀ {is : List Nat} {us : List V} {ds : List PyData} {env : List SD} {σ : L2.St}, Ok K g F env σ H → (∀ i ∈ is, NoPar env i) → DRs K F us ds → Ok K g F (setAllD env is ds) (DL.setAll σ is us) H
  | [], _, _, _, _, k, _, _ => by simpa [DL.setAll, setAllD] using k
  | i :: is, _, _, _, _, k, h, .nil => by simpa [DL.setAll, setAllD] using k
  | i :: is, _, _, _, _, k, h, .cons a b => by
    unfold DL.setAll setAllD
    exact Ok.setAll (k.setD (h i List.mem_cons_self) a) (fun j hj => noPar_un (h j (List.mem_cons_of_mem _ hj)) (fun _ z => by cases z)) b
theorem Ok.unwiped {vs : List Nat} (k : Ok K g F env (wipe σ vs) H) : Ok K g F env σ H := by
  have up : ∀ {i : Nat} {v : V}, (wipe σ vs)[i]? = some (some v) → σ[i]? = some (some v) := fun {i v} e => by
    rw [wipe_get] at e
    by_cases hj : i ∈ vs
    · rw [if_pos hj] at e
      cases q : σ[i]? with
      | none => rw [q] at e; cases e
      | some o => rw [q] at e; cases e
    · rw [if_neg hj] at e
      exact e
  have dn : ∀ {j : Nat} {p : Bool} {ys : List PyData} {a : Addr}, env[j]? = some (.cel p ys) → σ[j]? = some (some (.ref a)) → (wipe σ vs)[j]? = some (some (.ref a)) := fun {j p ys a} e q => by
    obtain ⟨b, _, h1, _⟩ := k.cel j p ys e
    have := up h1
    rw [q] at this
    cases this
    exact h1
  refine ⟨k.len.trans (wipe_length σ vs), k.fh, fun i d e => ?_, fun i p xs e => ?_, fun i j p q xs ys a h1 h2 h3 h4 => k.sep i j p q xs ys a h1 h2 (dn h1 h3) (dn h2 h4), k.pin, k.frame, k.newF, k.oldF, fun a o e => ?_, ?_⟩
  · obtain ⟨v, h1, h2⟩ := k.dat i d e
    exact ⟨v, up h1, h2⟩
  · obtain ⟨a, us, h1, h2⟩ := k.cel i p xs e
    exact ⟨a, us, up h1, h2⟩
  · obtain ⟨z1, z2, z3⟩ := k.prot a o e
    exact ⟨z1, z2, fun j p ys e1 e2 => z3 j p ys e1 (dn e1 e2)⟩
  · obtain ⟨B, h1, h2⟩ := k.dic
    refine ⟨B, fun i w e => let ⟨a, z1, z2⟩ := h1 i w e; ⟨a, up z1, z2⟩, fun i j w w' a b e1 e2 z1 z2 => h2 i j w w' a b e1 e2 ?_ ?_⟩
    · obtain ⟨c, y1, _⟩ := h1 i w e1
      have := up y1
      rw [z1] at this
      cases this
      exact y1
    · obtain ⟨c, y1, _⟩ := h1 j w' e2
      have := up y1
      rw [z2] at this
      cases this
      exact y1
theorem set_same {α : Type} {l : List α} {i : Nat} {x : α} (h : l[i]? = some x) : l.set i x = l := List.ext_getElem? fun j => by
  rw [List.getElem?_set]
  by_cases e : i = j
  · subst e
    rw [if_pos rfl, if_pos (List.getElem?_eq_some_iff.mp h).1, h]
  · rw [if_neg e]
/-- what stood at the slots vs is known again -/
def again (env1 : List SD) : List Nat → List SD → List SD
  | [], env2 => env2
  | v :: vs, env2 => match env1[v]? with
    | some (.dat d) => again env1 vs (env2.set v (.dat d))
    | _ => again env1 vs env2
theorem Ok.again {F1 H1 : Hp} {env1 : List SD} (k1 : Ok K g F1 env1 σ H1) (ex : Ex F1 F) : ∀ {vs : List Nat} {env2 : List SD}, Ok K g F env2 σ H → (∀ v ∈ vs, NoPar env2 v) → Ok K g F (DL.again env1 vs env2) σ H
  | [], _, k, _ => k
  | v :: vs, env2, k, h => by
    unfold DL.again
    split
    · rename_i d e
      obtain ⟨u, h1, h2⟩ := k1.dat v d e
      have k2 := k.setD (h v List.mem_cons_self) (h2.mono ex)
      rw [set_same h1] at k2
      exact Ok.again k1 ex k2 fun j hj => noPar_un (h j (List.mem_cons_of_mem _ hj)) (fun _ z => by cases z)
    · exact Ok.again k1 ex k fun j hj => h j (List.mem_cons_of_mem _ hj)
/-- the cell at D, no name's, protected -/
theorem Ok.hide (k : Ok K g F env σ H) {D : Addr} {vs : List V} (hF : F D = none) (hH : H D = some (.lst vs)) (nw : ∀ (j : Nat) (p : Bool) (ys : List PyData), env[j]? = some (.cel p ys) → σ[j]? ≠ some (some (.ref D))) (hp : g.Pr D = none) : Ok K (g.hid D vs hp) F env σ H :=
  ⟨k.len, k.fh, k.dat, k.cel, k.sep, k.pin, k.frame, k.newF, k.oldF, fun a o e => by
    by_cases z : a = D
    · subst z
      have e' : upd g.Pr a (.lst vs) a = some o := e
      rw [upd_same] at e'
      cases e'
      exact ⟨hH, hF, nw⟩
    · have e' : upd g.Pr D (.lst vs) a = some o := e
      rw [upd_ne z] at e'
      exact k.prot a o e',
    k.dic.keep (Ex.refl F) (fun a xs e n => by
      have ne : a ≠ D := fun z => by rw [z, hH] at e; cases e
      show upd g.Pr D (.lst vs) a = none
      rw [upd_ne ne]
      exact n) fun a xs _ n => ⟨n, rfl⟩⟩
theorem Ok.bare {D : Addr} {vs : List V} (hp : g.Pr D = none) (k : Ok K (g.hid D vs hp) F env σ H) :
    Ok K g F env σ H ∧ F D = none ∧ H D = some (.lst vs) ∧ ∀ (j : Nat) (p : Bool) (ys : List PyData), env[j]? = some (.cel p ys) → σ[j]? ≠ some (some (.ref D)) := by
  obtain ⟨z1, z2, z3⟩ := k.prot D (.lst vs) upd_same
  refine ⟨⟨k.len, k.fh, k.dat, k.cel, k.sep, k.pin, k.frame, k.newF, k.oldF, fun a o e => ?_, (k.dic.keep (Ex.refl F) (fun a xs e n => ?_) fun a xs _ n => ⟨n, rfl⟩)⟩, z2, z1, z3⟩
  · have ne : a ≠ D := fun z => by rw [z, hp] at e; cases e
    exact k.prot a o (show upd g.Pr D (.lst vs) a = some o by rw [upd_ne ne]; exact e)
  · have ne : a ≠ D := fun z => by rw [z, z1] at e; cases e
    have n : upd g.Pr D (.lst vs) a = none := n
    rw [upd_ne ne] at n
    exact n
/-- a cell of no name is written -/
theorem Ok.writeP (k : Ok K g F env σ H) {D : Addr} {o o0 : HO} (hD : H D = some o0) (hn : ∀ φ, o0 ≠ .ext φ) (t1 : ∀ ps, o0 ≠ .tbl ps) (t2 : ∀ q, o0 ≠ LamX.CodeO D q) (hF : F D = none) (h0 : g.H0 D = none) (hp : g.Pr D = none) (nw : ∀ (j : Nat) (p : Bool) (ys : List PyData), env[j]? = some (.cel p ys) → σ[j]? ≠ some (some (.ref D))) : Ok K g F env σ (upd H D o) := by
  refine ⟨k.len, fun a u e => ?_, k.dat, fun i p xs e => ?_, k.sep, k.pin, k.frame.putO hD t1 t2 (fun o e => by rw [h0] at e; cases e), k.newF, k.oldF, fun a u e => ?_, (k.dic.keep (Ex.refl F) (fun _ _ _ z => z) fun a xs e n => ⟨n, upd_ne fun z => ?_⟩)⟩
  · have ne : a ≠ D := fun z => by rw [z, hF] at e; cases e
    rw [upd_ne ne]
    exact k.fh a u e
  · obtain ⟨a, us, h1, h2, h3, h4⟩ := k.cel i p xs e
    have ne : a ≠ D := fun z => by subst z; exact nw i p xs e h1
    exact ⟨a, us, h1, h2, by rw [upd_ne ne]; exact h3, h4⟩
  · obtain ⟨z1, z2, z3⟩ := k.prot a u e
    have ne : a ≠ D := fun z => by rw [z, hp] at e; cases e
    exact ⟨by rw [upd_ne ne]; exact z1, z2, z3⟩
  · subst z
    rw [hD] at e
    exact hn xs (Option.some.inj e)
end

inductive CT where
  | one (i : Nat)
  | tup (is : List Nat)
def CT.slots : CT → List Nat
  | .one i => [i]
  | .tup is => is
def gNs : List Nat → TGs
  | [] => gNil
  | i :: is => gCons (gName i) (gNs is)
/-- the target's reading -/
def CT.g (K : PySem.W.Frag) : CT → TG
  | .one i => gName i
  | .tup is => gTup K is.length (gNs is)
def setK : List Nat → List PyData → List SD → (List SD → Prop) → Prop
  | [], ds, env, P => nilQ ds (P env)
  | i :: is, ds, env, P => consQ ds fun d r => setK is r (env.set i (.dat d)) P
theorem setK_inv : ∀ {is : List Nat} {ds : List PyData} {env : List SD} {P : List SD → Prop}, setK is ds env P → ds.length = is.length ∧ P (setAllD env is ds)
  | [], ds, env, P, h => by
    obtain ⟨rfl, h⟩ := nilQ_inv h
    exact ⟨rfl, h⟩
  | i :: is, ds, env, P, h => by
    obtain ⟨d, r, rfl, h⟩ := consQ_inv h
    obtain ⟨e, h⟩ := setK_inv (is := is) h
    exact ⟨by simp [e], h⟩
def CT.d : CT → DG
  | .one i => fun x env P => P (env.set i (.dat x))
  | .tup is => fun x env P => tupQ x fun ds => setK is ds env P
theorem gNs_ok : ∀ {is : List Nat} {vs : List V} {σ : L2.St} {H : Hp} {Q : L2.St → Hp → Prop}, vs.length = is.length → Q (setAll σ is vs) H → gNs is vs σ H Q
  | [], [], σ, H, Q, _, h => ⟨rfl, by simpa [setAll] using h⟩
  | [], _ :: _, _, _, _, e, _ => by simp at e
  | _ :: _, [], _, _, _, e, _ => by simp at e
  | i :: is, v :: vs, σ, H, Q, e, h => ⟨v, vs, rfl, gNs_ok (by simpa using e) (by unfold setAll at h; exact h)⟩
/-- whether the target is a tuple of names -/
def CT.isT : CT → Bool
  | .one _ => false
  | .tup _ => true
theorem CT.ok {K : PySem.W.Frag} {g : Gx Z} {F H : Hp} {env : List SD} {σ : L2.St} {t : CT} {x : V} {d : PyData} {P : List SD → Prop} {Q : L2.St → Hp → Prop} (k : Ok K g F env σ H) (hn : ∀ i ∈ t.slots, NoPar env i) (r : DRw K t.isT F x d) (w : t.d d env P)
    (q : ∀ env' σ', P env' → Ok K g F env' σ' H → (∃ us, σ' = setAll σ t.slots us) → Q σ' H) : t.g K x σ H Q := by
  cases t with
  | one i => exact q _ _ w (k.setD (hn i (List.mem_singleton.mpr rfl)) r.non) ⟨[x], by simp [CT.slots, setAll]⟩
  | tup is =>
    obtain ⟨ds, rfl, w⟩ := tupQ_inv w
    have w := setK_inv w
    obtain ⟨a, xs, rfl, h1, h2⟩ := r.tup
    exact ⟨a, xs, rfl, Evl.ex_t k.fh h1, h2.length.trans w.1, gNs_ok (h2.length.trans w.1) (q _ _ w.2 (k.setAll hn h2) ⟨xs, rfl⟩)⟩
def decQ {I S : Type} (dec : List SD → Option (I × S)) (N : I → S → Prop) (env : List SD) : Prop := match dec env with
  | some (i, s) => N i s
  | none => False
theorem decQ_inv {I S : Type} {dec : List SD → Option (I × S)} {N : I → S → Prop} {env : List SD} (h : decQ dec N env) : ∃ i s, dec env = some (i, s) ∧ N i s := by
  unfold decQ at h
  split at h
  · exact ⟨_, _, ‹_›, h⟩
  · exact h.elim
def qLc {I S : Type} (b : PyData → I → S → (I → S → Prop) → (PyData → I → S → Prop) → Prop) (i : I) : List PyData → List PyData → S → (List PyData → S → Prop) → Prop
  | [], acc, s, K => K acc s
  | d :: r, acc, s, K => b d i s (same i fun s => qLc b i r acc s K) fun y => same i fun s => acc.length < 100000 ∧ qLc b i r (acc ++ [y]) s K
abbrev dLcQ {I S : Type} (dec : List SD → Option (I × S)) (emb : I → S → List SD) (qb : PyData → I → S → (I → S → Prop) → (PyData → I → S → Prop) → Prop) (wi : DI) (t : CT) (env : List SD) (P : SD → List SD → Prop) : Prop :=
  wi env fun items env1 => bIf (t.slots.all (noPar env1)) (decQ dec (fun i s => qLc qb i items [] s fun acc s => bIf (t.slots.all (noPar (emb i s))) (P (.cel false acc) (again env1 t.slots (emb i s))) False) (wipeD env1 t.slots)) False
def LcHyp {I S : Type} (dec : List SD → Option (I × S)) (emb : I → S → List SD) (qb : PyData → I → S → (I → S → Prop) → (PyData → I → S → Prop) → Prop) (t : CT) (c : DT) (we : DE) : Prop :=
  ∀ (d : PyData) (i : I) (s : S) (sk : I → S → Prop) (yd : PyData → I → S → Prop), qb d i s sk yd → t.d d (emb i s) fun env1 => c env1 fun b env2 => bIf b
    (we env2 fun y env3 => bIf (t.slots.all (noPar env3)) (decQ dec (yd y) (wipeD env3 t.slots)) False)
    (bIf (t.slots.all (noPar env2)) (decQ dec sk (wipeD env2 t.slots)) False)
theorem noPar_all {env : List SD} {vs : List Nat} (h : vs.all (noPar env) = true) : ∀ v ∈ vs, NoPar env v := fun v hv => noPar_of (List.all_eq_true.mp h v hv)
theorem lift_lc {K : PySem.W.Frag} {I S : Type} {dec : List SD → Option (I × S)} {emb : I → S → List SD} {qb : PyData → I → S → (I → S → Prop) → (PyData → I → S → Prop) → Prop} (hde : ∀ env i s, dec env = some (i, s) → env = emb i s)
    {wi : DI} {t : CT} {c : DT} {we : DE} (hq : LcHyp dec emb qb t c we) {σ : L2.St} {H : Hp} {Q : VK} (h : liftX K Z (dLcQ dec emb qb wi t) σ H Q) : tLc (liftI K Z t.isT wi) (t.g K) (liftT K Z c) (liftE K Z we) t.slots σ H Q := by
  obtain ⟨g, F, env, P, k, w, q⟩ := h
  refine ⟨g, F, env, _, k, w, fun items env1 J F1 H1 p e1 k1 ⟨G, Y, wk, hG, hY⟩ D hD => ?_⟩
  obtain ⟨np, p⟩ := bIf_and p
  obtain ⟨i0, s0, d0, p⟩ := decQ_inv p
  have kw := k1.wiped (noPar_all np)
  obtain ⟨kn, rn⟩ := kw.newCell hD (vs := []) (xs := []) .nil
  refine lc_it wk (fun j H' => ∃ env' F' acc, Ex F1 F' ∧ Ok K g F' env' (wipe σ t.slots) H' ∧ ResOk K g F' env' (wipe σ t.slots) H' (.ref D) (.cel false acc) ∧ (∀ v ∈ t.slots, NoPar env' v) ∧
      decQ dec (same i0 fun s => qLc qb i0 (items.drop j) acc s fun acc s => bIf (t.slots.all (noPar (emb i0 s))) (P (.cel false acc) (again env1 t.slots (emb i0 s))) False) env')
    ⟨_, F1, [], Ex.refl F1, kn, rn, fun v hv => noPar_wipe (noPar_all np v hv) _, by unfold decQ; rw [d0]; exact ⟨rfl, p⟩⟩ (fun i H' _ ⟨env', F', acc, e2, k2, _⟩ => hG H' (e2.trans k2.fh)) (fun j x H' H2 hi ⟨env', F', acc, e2, k2, r2, n2, w2⟩ y => ?_) fun H' ⟨env', F', acc, e2, k2, r2, n2, w2⟩ => ?_
  · obtain ⟨i, s, de, rfl, w3⟩ := decQ_inv w2
    obtain rfl := hde _ _ _ de
    rw [List.drop_eq_getElem_cons hi] at w3
    have w2 := hq _ _ _ _ _ w3
    obtain ⟨D', vsA, eD, hF, hHD, rA, h0, hpr, nw⟩ := r2
    cases eD
    have kh := k2.hide hF hHD nw hpr
    obtain ⟨F3, e3, k3, r3⟩ := kh.yld e2 (hY j H' x H2 items[j] (e2.trans k2.fh) (by simp [hi]) y)
    refine CT.ok k3 n2 r3 w2 fun env4 σ4 p4 k4 ⟨us, hσ⟩ => ?_
    have hw : wipe σ4 t.slots = wipe σ t.slots := by rw [hσ, wipe_all (fun i hi => hi), wipe_wipe]
    refine ⟨hw, _, F3, env4, _, k4, p4, fun b env5 F5 H5 p5 e5 k5 => ?_⟩
    cases b with
    | false =>
      refine iteF ?_
      have p5 := bIf_and p5
      obtain ⟨k6, z1, z2, z3⟩ := Ok.bare hpr k5
      have k7 := k6.wiped (noPar_all p5.1)
      rw [hw] at k7
      refine ⟨_, F5, acc, (e2.trans e3).trans e5, k7, ?_, fun v hv => noPar_wipe (noPar_all p5.1 v hv) _, p5.2⟩
      refine ⟨D, vsA, rfl, z1, z2, rA.mono (e3.trans e5), h0, hpr, fun j p ys ej ez => ?_⟩
      rw [← hw] at ez
      exact wiped_cell z3 ej ez
    | true =>
      refine iteT ⟨_, F5, env5, _, k5, p5, fun d env6 v F6 H6 p6 e6 k6 r6 => ?_⟩
      obtain ⟨np6, p6⟩ := bIf_and p6
      obtain ⟨i6, s6, d6, hi6, p6⟩ := decQ_inv p6
      obtain ⟨k7, z1, z2, z3⟩ := Ok.bare hpr k6
      refine ⟨vsA, z2, by rw [rA.length]; exact Evl.sz_lt p6.1, ?_⟩
      have k8 := k7.wiped (noPar_all np6)
      have z4 : ∀ (j : Nat) (p : Bool) (ys : List PyData), (wipeD env6 t.slots)[j]? = some (.cel p ys) → (wipe σ4 t.slots)[j]? ≠ some (some (.ref D)) := fun j p ys ej ez => wiped_cell z3 ej ez
      have k9 := k8.writeP (o := .lst (vsA ++ [v])) z2 (fun _ z => by cases z) (fun _ z => by cases z) (fun _ z => codeO_lst z.symm) z1 h0 hpr z4
      rw [hw] at k9 z4
      exact ⟨_, F6, acc ++ [d], ((e2.trans e3).trans e5).trans e6, k9, ⟨D, vsA ++ [v], rfl, z1, upd_same, (rA.mono ((e3.trans e5).trans e6)).append (.one r6), h0, hpr, z4⟩, fun v hv => noPar_wipe (noPar_all np6 v hv) _, by unfold decQ; rw [d6]; exact ⟨hi6, p6.2⟩⟩
  · obtain ⟨i, s, de, rfl, w3⟩ := decQ_inv w2
    obtain rfl := hde _ _ _ de
    rw [List.drop_length] at w3
    have w2 := bIf_and w3
    have k3 := k2.unwiped
    have k4 := Ok.again k1 e2 k3 (noPar_all w2.1)
    obtain ⟨D', vsA, eD, hF, hHD, rA, h0, hpr, nw⟩ := r2
    cases eD
    refine q _ _ _ F' H' w2.2 (e1.trans e2) k4 ⟨D, vsA, rfl, hF, hHD, rA, h0, hpr, fun j p ys ej ez => ?_⟩
    have ej' := again_cell ej
    obtain ⟨a, _, b1, _⟩ := k3.cel j p ys ej'
    obtain ⟨a2, _, b2, _⟩ := k2.cel j p ys ej'
    have b3 := wipe_some b2
    rw [ez] at b1
    cases b1
    rw [ez] at b3
    cases b3.1
    exact nw j p ys ej' b2
where
  wiped_cell {env : List SD} {σ : L2.St} {D : Addr} {vs : List Nat} (z : ∀ (j : Nat) (p : Bool) (ys : List PyData), env[j]? = some (.cel p ys) → σ[j]? ≠ some (some (.ref D))) {j : Nat} {p : Bool} {ys : List PyData} (e : (wipeD env vs)[j]? = some (.cel p ys)) (e2 : (wipe σ vs)[j]? = some (some (.ref D))) : False := by
    have h1 := (wipe_some e2).1
    have : ∀ vs : List Nat, (wipeD env vs)[j]? = some (.cel p ys) → env[j]? = some (.cel p ys) := fun vs => by
      induction vs with
      | nil => exact id
      | cons v vs ih =>
        intro h
        rcases get_set h with ⟨_, q⟩ | ⟨_, q⟩
        · cases q
        · exact ih q
    exact z j p ys (this vs e) h1
  again_cell {env1 : List SD} {vs : List Nat} {env2 : List SD} {j : Nat} {p : Bool} {ys : List PyData} (e : (again env1 vs env2)[j]? = some (.cel p ys)) : env2[j]? = some (.cel p ys) := by
    induction vs generalizing env2 with
    | nil => exact e
    | cons v vs ih =>
      unfold again at e
      split at e
      · have := ih e
        rcases get_set this with ⟨_, q⟩ | ⟨_, q⟩
        · cases q
        · exact q
      · exact ih e
section
variable {X : Cx} {elt tg iter : Expr} {ifs : List Expr} {scope : Scope} {own : List (Str × Nat)} {pos : Pos} {wi : DI} {t : CT} {c : DT} {we : DE} {m : Nat} {I S : Type} {dec : List SD → Option (I × S)} {emb : I → S → List SD} {qb : PyData → I → S → (I → S → Prop) → (PyData → I → S → Prop) → Prop}
abbrev dYes (env : List SD) (P : Bool → List SD → Prop) : Prop := P true env
theorem tyes : PTs X [] (liftT X.K Z dYes) := ⟨fun pins s σ H Q I ⟨g, F, env, P, k, w, q⟩ => pts_nil.run pins s σ H Q I (q true env F H w (Ex.refl F) k)⟩
theorem tif1 {e : Expr} (h : PT X e (liftT X.K Z c)) : PTs X [e] (liftT X.K Z c) := pts_one h
/-- [elt for tg in iter if ..] -/
theorem dlc (own : List (Str × Nat)) (t : CT) (hde : ∀ env i s, dec env = some (i, s) → env = emb i s) (hc : X.calm = true) (hN : X.N.Nodup) (hi : PI X tg iter (liftI X.K Z t.isT wi)) (ok : BlkOk X.N X.env.scope scope own)
    (hg : ∀ (s : Shared) (H : Hp) (C : Addr) (cl : List (Str × Addr)) (fp : List Addr), PG (X.blk s H scope (compEnvC scope cl C X.env) fp) tg (t.g X.K)) (ht : ∀ (s : Shared) (H : Hp) (C : Addr) (cl : List (Str × Addr)) (fp : List Addr), PTs (X.blk s H scope (compEnvC scope cl C X.env) fp) ifs (liftT X.K Z c))
    (he : ∀ (s : Shared) (H : Hp) (C : Addr) (cl : List (Str × Addr)) (fp : List Addr), PE (X.blk s H scope (compEnvC scope cl C X.env) fp) elt (liftE X.K Z we)) (hq : LcHyp dec emb qb t c we) (hsl : t.slots = own.map (·.2) := by rfl) (hs : ∀ x, foldedSetIterable iter X.env x = pure x := by intro _; rfl) :
    PE X (.ListComp elt [⟨tg, iter, ifs, 0⟩] scope pos) (liftX X.K Z (dLcQ dec emb qb wi t)) := PE.of (pe_lc hc hN hi ok hg ht he hs) fun σ H Q h => by
  have h2 := lift_lc hde hq h
  rw [hsl] at h2
  exact h2
/-- name = [elt for tg in iter if ..] -/
theorem ssetLc (i : Nat) (own : List (Str × Nat)) (t : CT) (hde : ∀ env i s, dec env = some (i, s) → env = emb i s) {y : Str} {py spos : Pos} (hc : X.calm = true) (hN : X.N.Nodup) (hi : PI X tg iter (liftI X.K Z t.isT wi)) (ok : BlkOk X.N X.env.scope scope own)
    (hg : ∀ (s : Shared) (H : Hp) (C : Addr) (cl : List (Str × Addr)) (fp : List Addr), PG (X.blk s H scope (compEnvC scope cl C X.env) fp) tg (t.g X.K)) (ht : ∀ (s : Shared) (H : Hp) (C : Addr) (cl : List (Str × Addr)) (fp : List Addr), PTs (X.blk s H scope (compEnvC scope cl C X.env) fp) ifs (liftT X.K Z c))
    (he : ∀ (s : Shared) (H : Hp) (C : Addr) (cl : List (Str × Addr)) (fp : List Addr), PE (X.blk s H scope (compEnvC scope cl C X.env) fp) elt (liftE X.K Z we)) (hq : LcHyp dec emb qb t c we) (hsw : swapsWith (.ListComp elt [⟨tg, iter, ifs, 0⟩] scope pos) (some (.Name y py)) spos.line X.env = pure true)
    (hsl : t.slots = own.map (·.2) := by rfl) (hy : X.N[i]? = some y := by rfl) (hyl : X.env.scope.names.lookup y = some .local := by rfl) (hs : ∀ x, foldedSetIterable iter X.env x = pure x := by intro _; rfl) :
    PS X (.Assign [.Name y py] (.ListComp elt [⟨tg, iter, ifs, 0⟩] scope pos) spos) (liftS X.K Z m (dSet i (dLcQ dec emb qb wi t))) := PS.of (ps_setLc hc hN hy hyl hsw hi ok hg ht he hs) fun D σ H ⟨g, F, env, P, k, w, q⟩ => by
  have h2 : liftX X.K Z (dLcQ dec emb qb wi t) σ H fun v H1 => D.nx (σ.set i (some v)) H1 := ⟨g, F, env, _, k, w, fun r env1 v F1 H1 p e1 k1 r1 => q.nx _ _ F1 H1 (bIf_and p).2 e1 (k1.setR (bIf_and p).1 (res_own r1) own_ne)⟩
  have h3 := lift_lc hde hq h2
  rw [hsl] at h3
  exact h3
end
end DL

namespace DL
variable {T : List (PySem.Addr × PySem.Str)} {Z : Zx T}
open PySem PySem.Spec PyProof.Rows L2
open Evl (Ex)

section
variable {K : PySem.W.Frag} {F H : Hp} {vs : List V} {as : List SD}
/-- where the cells handed in stand -/
def cellsAt (vs : List V) (as : List SD) (i : Nat) : Option Addr := match as[i]?, vs[i]? with
  | some (.cel _ _), some (.ref a) => some a
  | _, _ => none
theorem cellsAt_of {i : Nat} {p : Bool} {xs : List PyData} {a : Addr} (h1 : as[i]? = some (.cel p xs)) (h2 : vs[i]? = some (.ref a)) : cellsAt vs as i = some a := by
  unfold cellsAt
  rw [h1, h2]
theorem cellsAt_inv {i : Nat} {a : Addr} (h : cellsAt vs as i = some a) : ∃ p xs, as[i]? = some (.cel p xs) ∧ vs[i]? = some (.ref a) := by
  unfold cellsAt at h
  split at h
  · rename_i p xs b h1 h2
    cases h
    exact ⟨p, xs, h1, h2⟩
  · cases h
def entryZ (T : List (Addr × Str)) (P : Program) (w : World) (F H : Hp) (vs : List V) (as : List SD) : Zx T := ⟨F, H, cellsAt vs as, fun _ => none, P, w⟩
def entryG (T : List (Addr × Str)) (P : Program) (w : World) (F H : Hp) (vs : List V) (as : List SD) : Gx (entryZ T P w F H vs as) := ⟨fun _ => none, fun _ _ h => h, fun _ _ h => by cases h⟩
theorem start_get {N : List Str} {i : Nat} {v : V} (h : vs[i]? = some v) : (start N vs)[i]? = some (some v) := by
  unfold L2.start
  have hi : i < vs.length := (List.getElem?_eq_some_iff.mp h).1
  rw [List.getElem?_append_left (by simpa using hi), List.getElem?_map, h]
  rfl
theorem args_get {m i : Nat} {r : SD} (h : (as ++ List.replicate m SD.un)[i]? = some r) (hr : r ≠ .un) : as[i]? = some r := by
  by_cases hi : i < as.length
  · rwa [List.getElem?_append_left hi] at h
  · rw [List.getElem?_append_right (by omega), List.getElem?_replicate] at h
    split at h
    · cases h
      exact absurd rfl hr
    · cases h
theorem entry_ok {N ps : List Str} (ha : ArgsOk T K F H vs as) (hl : as.length = ps.length) (hN : ps.length ≤ N.length) {P : Program} {w : World} : Ok K (entryG T P w F H vs as) F (as ++ List.replicate (N.length - ps.length) .un) (start N vs) H where
  len := by
    unfold L2.start
    have := ha.len
    simp
    omega
  fh := ha.fh
  dat := fun i d e => by
    obtain ⟨v, h1, h2⟩ := ha.dat i d (args_get e (fun z => by cases z))
    exact ⟨v, start_get h1, h2⟩
  cel := fun i p xs e => by
    have e := args_get e (fun z => by cases z)
    obtain ⟨rfl, a, us, h1, h2, h3, h4⟩ := ha.cel i p xs e
    exact ⟨a, us, start_get h1, h2, h3, h4, fun _ => cellsAt_of e h1, fun z => by cases z⟩
  sep := fun i j p q xs ys a e1 e2 h1 h2 => by
    have e1 := args_get e1 (fun z => by cases z)
    have e2 := args_get e2 (fun z => by cases z)
    obtain ⟨_, b, _, b1, _⟩ := ha.cel i p xs e1
    obtain ⟨_, c, _, c1, _⟩ := ha.cel j q ys e2
    rw [start_get b1] at h1
    rw [start_get c1] at h2
    cases h1
    cases h2
    exact ha.sep i j p q xs ys _ e1 e2 b1 c1
  pin := fun i a e => by
    obtain ⟨p, xs, h1, h2⟩ := cellsAt_inv e
    obtain ⟨rfl, _⟩ := ha.cel i p xs h1
    refine ⟨xs, ?_⟩
    rw [List.getElem?_append_left (List.getElem?_eq_some_iff.mp h1).1]
    exact h1
  frame := Frm.refl ha.tab
  newF := fun a o e => .inl e
  oldF := ⟨Ex.refl F, ha.nt⟩
  prot := fun a o e => by cases e
  dic := DicsOk.none fun i w e => ha.nod i w (args_get e (fun z => by cases z))
theorem post_of {P : Program} {w : World} {env : List SD} {σ : L2.St} {F' H' : Hp} {v : V} {r : SD} {n : Nat} (k : Ok K (entryG T P w F H vs as) F' env σ H') (hn : ∀ (i : Nat) (p : Bool) (xs : List PyData), as[i]? = some (.cel p xs) → i < n) (hr : ResOk K (entryG T P w F H vs as) F' env σ H' v r) : PostOk T K F H vs as F' H' (env.take n) v r where
  ex := k.oldF.1
  nt := k.oldF.2
  fh := k.fh
  newF := k.newF
  frame := k.frame.weak fun a o e n i z => by
    obtain ⟨p, xs, h1, h2⟩ := cellsAt_inv z
    exact n i p xs h1 h2
  cel := fun i p xs a h1 h2 => by
    have e : (entryG T P w F H vs as).A0 i = some a := cellsAt_of h1 h2
    obtain ⟨ys, h3⟩ := k.pin i a e
    obtain ⟨b, us, _, c2, c3, c4, c5, _⟩ := k.cel i true ys h3
    have c5 := c5 rfl
    rw [e] at c5
    cases c5
    refine ⟨ys, us, ?_, c2, c3, c4⟩
    rw [List.getElem?_take_of_lt (hn _ _ _ h1)]
    exact h3
  res := by
    cases r with
    | un => exact hr
    | dat d => exact hr
    | cel b xs =>
      obtain ⟨a, us, h1, h2, h3, h4, h5, _⟩ := hr
      exact ⟨a, us, h1, h2, h3, h4, h5⟩
    | dic kvs => exact hr.elim
end

section
variable {P : Program} {w : World} {K : PySem.W.Frag} {mg : Str → Option Value} {base : Heap}
/-- the ends of a def's body -/
def defEnds (m : Nat) (Q : SD → List SD → Prop) : DEnds := { nx := fun env => Q (.dat .none) (env.take m), rt := Q }
/-- cells stand ahead of place m alone -/
def CelsIn (m : Nat) (S : DSp) : Prop := ∀ as Q, S as Q → ∀ (i : Nat) (p : Bool) (xs : List PyData), as[i]? = some (.cel p xs) → i < m
/-- a def of the text, by its body read as data -/
theorem dfn (m : Nat) {x qual : Str} {st : Stmt} {f : Addr} {fd : FuncData} {N ps : List Str} {k : Nat} {S : DSp} (Fn : Fun K x qual st f fd) (sc : FnScope N ps (defScope st)) (len : ∀ as Q, S as Q → as.length = ps.length) (cels : CelsIn m S)
    (hbody : ∀ {Z : Zx T} (cdv : Value) (A : Around) (outer : List Env) (s : Shared) (H : Hp), Room k (A.deeper (envOfC qual (defScope st) s.heap.objs.size f cdv)) → (A.deeper (envOfC qual (defScope st) s.heap.objs.size f cdv)).guards = some [] →
      ∃ t : DS, PSs (cxOf CX0 P w K mg base N qual (defScope st) f cdv A outer s H E0).nox (defBody st) (liftS K Z m t) ∧
        ∀ as Q, S as Q → t (defEnds m Q) (as ++ List.replicate (N.length - ps.length) .un)) : FnG P w K mg base T (k + 1) f fd ps S := by
  obtain ⟨oc, od, kV, doc, pm, an, cdv, ct, osl, rfl, lk, hcd⟩ := Fn.ex
  refine ⟨len, fun A outer s H args us vs Q hr hg e0 hb rv ⟨F0, as, PP, ha, hS, hQ⟩ => ?_⟩
  have hl : vs.length = ps.length := ha.len.symm.trans (len as PP hS)
  have hpl : ps.length ≤ N.length := by
    have := congrArg List.length sc.pre
    rw [List.length_take] at this
    omega
  have KX : K.In s.heap := e0.mod.kin.keeps fun b o e => (e0.bs b o e).1
  refine codeAny_call_function hr.depth (KX _ _ lk) rfl sc.co sc.gen rfl (PySem.W.codeRec_of KX hcd) (hb _ _ _ _ (wpAny_newFunctionEnv_cells sc.kind (fun ⟨n, v⟩ hy => ?_) fun env he s1 x => ?_))
  · rcases sc.par n (List.of_mem_zip hy).1 with q | q
    · exact .inl q
    · exact .inr ⟨q, PySem.W.cellsFrom_some _ _ _ (.inl q)⟩
  · subst he
    obtain ⟨t, ht, hq⟩ := hbody (Z := entryZ T P w F0 H vs as) cdv A outer s H (hr.deeper _) hg
    have I : Inv (cxOf CX0 P w K mg base N qual (defScope st) f cdv A outer s H E0) [] (start N vs) H s1 := inv_start sc hr.hd e0 hl rv x
    refine ⟨(e0.mod.nolimit.keeps fun b o e => (e0.bs b o e).1).keeps x.toInCall.keep, codeAny_func (wpAny_mono (ht.nox.run [] s1 (start N vs) H { nx := fun _ H' => Q .non H', rt := Q } I ?_) (fun fl s' hs => ?_) fun e s' hs => hs)⟩
    · have al : as.length = ps.length := len as PP hS
      refine ⟨entryG T P w F0 H vs as, F0, _, _, entry_ok ha al hpl, hq as PP hS, ?_⟩
      exact .mk4 (.mk (fun env' σ' F' H' p _ k' => hQ _ _ _ _ _ p (post_of k' (cels _ _ hS) .non)) (fun _ _ _ _ p => p.elim) (fun _ _ _ _ p => p.elim) (fun r env' v σ' F' H' p _ k' r' => hQ _ _ _ _ _ p (post_of k' (cels _ _ hS) r'))) rfl
    · have fin : ∀ {σ' : L2.St} {H' : Hp} {v : V} {u : Value}, Inv (cxOf CX0 P w K mg base N qual (defScope st) f cdv A outer s H E0) [] σ' H' s' → RelV v u → Q v H' → CE outer P w H s Q u s' :=
        fun {σ' H' v u} J r q => ⟨v, H', J.os, J.bare, J.base, J.hok, r, q⟩
      match fl, hs with
      | .ret u, ⟨v, σ', H', J, r, q⟩ => exact fin J r q
      | .next, ⟨σ', H', J, q⟩ => exact fin (v := V.non) (u := Value.none) J rfl q
      | .brk, ⟨_, _, _, q⟩ => exact q.elim
      | .cont, ⟨_, _, _, q⟩ => exact q.elim
/-- what is asked of a law's def: of a list of the script's numbers it tells True -/
def lawS (n : Nat) : DSp := fun as Q => match as with
  | [.dat (.list ds)] => (∃ ns : List Int, ds = ns.map .int ∧ ns.length ≤ n) ∧ ∀ as', Q (.dat (.bool true)) as'
  | _ => False
theorem drs_ints {F : Hp} : ∀ ns : List Int, DRs K F (ns.map V.int) (ns.map PyData.int)
  | [] => .nil
  | n :: ns => .cons (.int n) (drs_ints ns)
/-- the modules' dict stands -/
def SysD (h : Heap) : Prop := ∃ o es ep, h.get? sysModules = some o ∧ o.data = .dict es ep
class SysB (base : Heap) : Prop where
  out : SysD base
theorem law_data {mb : Str → Option Value} {k n : Nat} {fa a : Addr} {fd : FuncData} {x : Str} {s₁ : Shared} {vs : List Value} {ns : List Int}
    (KX : K.In s₁.heap) (hns : s₁.heap.Ns mainGlobals mg) (hb : s₁.heap.Ns builtinsNs mb) (hbb : ∀ x : Str, x ≠ "__name__" → mb x = bootBuiltins x) (hlim : s₁.heap.NoLimit) (hgn : s₁.gens = #[])
    (ha : s₁.heap.get? a = some { cls := .type "list", data := .seq vs.toArray }) (hi : IntsAre vs ns) (hn : ns.length ≤ n) (hz : n ≤ sizeLine) (hr : Room k callerA)
    (hsys : SysD s₁.heap) (Fn : ∀ base : Heap, K.In base → base.Ns mainGlobals mg → SysD base → FnG P w K mg base [] k fa fd [x] (lawS n)) (hbind : ∀ (s : Shared) (u : Value), BindsTo s fd ⟨[u], []⟩ [(x, u)]) :
    codeAny (model P w) callerA (.call (.ref fa) ⟨[.ref a], []⟩) (fun r s' => r = .ok (.ret (.bool true)) ∧ OldK s₁.heap s'.heap ∧ s'.os = s₁.os ∧ AllBare s'.gens) s₁ := by
  have rv := vals_ints hi
  have lenV := hi.length
  have hl : ns.length ≤ sizeLine := Nat.le_trans hn hz
  have core : ∀ H : Hp, Only H → RdL K H a (ns.map V.int) → HOk P w H s₁.heap → (∀ b, H b ≠ none → b = a) → (H a ≠ none → K.lookup a = none) →
      codeAny (model P w) callerA (.call (.ref fa) ⟨[.ref a], []⟩) (fun r s' => r = .ok (.ret (.bool true)) ∧ OldK s₁.heap s'.heap ∧ s'.os = s₁.os ∧ AllBare s'.gens) s₁ := by
    intro H hO hS hok hA hK
    have isA : ∀ {b : Addr} {u : HO}, H b = some u → b = a := fun {b u} q => hA b (by rw [q]; simp)
    have noA : ∀ {b : Addr} {o : Obj} {es : Array DictEntry} {ep : Nat}, s₁.heap.get? b = some o → o.data = .dict es ep → H b = none := fun {b o es ep} e d => by
      cases q : H b with
      | none => rfl
      | some u =>
        cases isA q
        rw [ha] at e; cases e
        cases (show Data.seq vs.toArray _ = Data.dict es ep from d)
    have nsK : ∀ {b : Addr} {m : Str → Option Value}, s₁.heap.Ns b m → (hidT s₁.heap H).Ns b m := fun {b m} ⟨o, es, ep, e, d, r⟩ => ⟨o, es, ep, hidT_get e (noA e d), d, r⟩
    have hKb : K.In (hidT s₁.heap H) := fun b o e => hidT_get (KX b o e) (by
      cases q : H b with
      | none => rfl
      | some u =>
        cases isA q
        rw [hK (by rw [q]; simp)] at e; cases e)
    have hM : Mod K mg (hidT s₁.heap H) := ⟨hKb, nsK hns, ⟨mb, nsK hb, hbb⟩, let ⟨mc, h1, h2⟩ := hlim; ⟨mc, nsK h1, h2⟩⟩
    have e0 : Env0 P w K mg (hidT s₁.heap H) callerA [] s₁ H := ⟨rfl, hM, fun b o e => of_hidT e, Nat.le_of_eq (hidT_size _ _), trivial, fun b hb => absurd (show b ∈ ([] : List Addr) from hb) (by simp), hok, .of_eq hgn⟩
    have goal : spD [] K (lawS n) [.ref a] H (fun v _ => v = .bl true) := by
      refine ⟨H, [.dat (.list (ns.map .int))], fun r _ => r = .dat (.bool true), args_dat (Ex.refl H) (fun p hp => absurd hp (by simp)) (fun b ps z => by rcases hO b with y | ⟨o, xs, y⟩ <;> rw [y] at z <;> cases z) (ds := [.list (ns.map .int)]) (.one (.lst hS (drs_ints ns))), ⟨⟨ns, rfl, hn⟩, fun _ => rfl⟩, fun r as' v F' H' p po => ?_⟩
      subst p
      exact DR.inv_bool po.res
    refine codeAny_mono ((Fn _ hKb (nsK hns) (let ⟨o, es, ep, e, d⟩ := hsys; ⟨o, es, ep, hidT_get e (noA e d), d⟩)).go callerA [] s₁ H ⟨[.ref a], []⟩ [.ref a] [.ref a] _ hr rfl e0 (hbind s₁ (.ref a)) (.cons rfl .nil) goal) fun r s' h => ?_
    match r, h with
    | .error e, h =>
      exact h.elim
    | .ok .next, h => exact h.elim
    | .ok .brk, h => exact h.elim
    | .ok .cont, h => exact h.elim
    | .ok (.ret u), ⟨v, H', os, bare, un, hok', r', q⟩ =>
      have q' : v = .bl true := q
      subst q'
      obtain rfl : u = Value.bool true := r'
      refine ⟨rfl, OldK.of_keep fun b o e => ?_, os, bare⟩
      cases q : H b with
      | none => exact un.keep b o e q (by intro z; exact absurd (show b ∈ ([] : List Addr) from z) (by simp)) (by simp)
      | some u =>
        rcases hO b with z | ⟨ob, xs, z⟩
        · rw [q] at z; cases z
        · have z2 := un.frzs b ob _ z
          obtain ⟨e1, _⟩ := hok b _ z
          obtain ⟨e2, _⟩ := hok' b _ z2
          rw [e] at e1; cases e1
          exact e2
  cases hk : K.lookup a with
  | some o =>
    have e := KX a o hk
    rw [ha] at e
    cases e
    exact core (fun _ => none) (fun _ => .inl rfl) (.inr ⟨vs, 0, hk, rv, by rw [lenV]; exact hl⟩) (fun b u z => by cases (show (none : Option HO) = some u from z)) (fun b z => absurd rfl z) fun z => absurd rfl z
  | none =>
    refine core (fun b => if b = a then some (.frz { cls := .type "list", data := .seq vs.toArray } (.lst (ns.map V.int))) else none) (fun b => ?_) (.inl (.inr ⟨{ cls := .type "list", data := .seq vs.toArray }, if_pos rfl⟩)) (fun b u z => ?_) (fun b z => ?_) fun _ => hk
    · by_cases hb : b = a
      · exact .inr ⟨_, _, if_pos hb⟩
      · exact .inl (if_neg hb)
    · by_cases hb : b = a
      · cases (if_pos hb).symm.trans z
        subst hb
        exact ⟨ha, by rw [List.length_map]; exact hl, vs, _, rv, ha⟩
      · cases (if_neg hb).symm.trans z
    · by_cases hb : b = a
      · exact hb
      · exact absurd (if_neg hb) z
end
end DL

namespace DL
variable {T : List (PySem.Addr × PySem.Str)} {Z : Zx T}
open PySem PySem.Spec PyProof.Rows L2
open Evl (Ex)

/-- a def of the top that keeps its promise -/
structure Dn (P : Program) (w : World) (K : PySem.W.Frag) (mg : Str → Option Value) (base : Heap) (T : List (Addr × Str)) (x : Str) (k : Nat) (ps : List Str) (S : DSp) : Prop where
  ex : ∃ fd, FnG P w K mg base T k (He.ga K x) fd ps S ∧ Binds K fd ps []
  glo : mg x = some (.ref (He.ga K x))
  kp : PySem.W.keepIn K (.ref (He.ga K x)) = true
/-- what the head says of the top -/
structure Top (fa : List He.Fa) (fn : List He.FnD) (K : PySem.W.Frag) (mg : Str → Option Value) : Prop where
  says : He.SaysE fa fn K
  ns : ∃ h, K.In h ∧ h.Ns mainGlobals mg
section
variable {fa : List He.Fa} {fn : List He.FnD} {K : PySem.W.Frag} {mg : Str → Option Value}
theorem Top.glo (T : Top fa fn K mg) (x : Str) (i : Nat) (h : fa[i]? = some (.glo x) := by rfl) : mg x = some (.ref (He.ga K x)) := by
  obtain ⟨hp, h1, h2⟩ := T.ns
  exact He.glo_ok h1 h2 (T.says.fact i h)
theorem Top.free (T : Top fa fn K mg) (x : Str) (i : Nat) (h : fa[i]? = some (.free x) := by rfl) : mg x = none := by
  obtain ⟨hp, h1, h2⟩ := T.ns
  exact He.free_ok h1 h2 (T.says.fact i h)
theorem Top.int (T : Top fa fn K mg) (x : Str) (n : Int) (i : Nat) (h : fa[i]? = some (.int x n) := by rfl) : ∃ t, mg x = some (.int n t) := by
  obtain ⟨hp, h1, h2⟩ := T.ns
  exact He.int_ok h1 h2 (T.says.fact i h)
theorem Top.keep (T : Top fa fn K mg) (x : Str) (i : Nat) (h : fa[i]? = some (.keep x) := by rfl) : PySem.W.keepIn K (.ref (He.ga K x)) = true := He.keep_ok (T.says.fact i h)
theorem Top.fun_ (T : Top fa fn K mg) (x : Str) (st : Stmt) (i j : Nat) (h : fn[i]? = some ⟨(x, none), x, x, defArgs st, defBody st, defScope st⟩ := by rfl) (hk : fa[j]? = some (.keep x) := by rfl) :
    ∃ kV doc pm an cdv ct, Fun K x x st (He.ga K x) (PySem.W.fnOf x x (defArgs st) (defBody st) (defScope st) .none kV doc pm an cdv ct) := by
  obtain ⟨oc, od, osl, kV, doc, pm, an, cdv, ct, h1, h2⟩ := T.says.def_ i h
  exact ⟨kV, doc, pm, an, cdv, ct, fun_mk h1 h2 (T.keep x j hk)⟩
/-- a module's whole number -/
theorem dnum {X : Cx} {x : Str} {n : Int} {pos : Pos} (hm : ∃ t, X.mg x = some (.int n t)) (hg : Gl X x := by rfl) (hdb : (x == ("__debug__" : Str)) = false := by decide) : PE X (.Name x pos) (liftE X.K Z (dC (.int n))) := by
  obtain ⟨t, h⟩ := hm
  exact dglob (v := .int n) h ⟨t, rfl⟩ (fun _ => .int n) hg hdb
end
section
variable {X : Cx} {k : Nat} {ps : List Str} {S : DSp} {x : Str} {p pos : Pos} {e : Expr} {es : List Expr} {was : DA}
theorem dcn (D : Dn X.prog X.w X.K X.mg X.base T x k ps S) (hr : Room k X.A) (hA : X.A.guards = some [])
    (ha : PA X (e :: es) (liftA X.K Z was)) (hg : Gl X x := by rfl) (hdb : (x == ("__debug__" : Str)) = false := by decide)
    (he : starEach (e :: es) X.env = (false, eval e X.env) :: starEach es X.env := by rfl) (hpl : (backTo pos (starEach es X.env)).any (·.1) = false := by rfl) : PE X (.Call (.Name x p) (e :: es) [] pos) (liftX X.K Z (dCall S was)) := by
  obtain ⟨fd, h1, h2⟩ := D.ex
  exact dcall h1 hr hA D.glo D.kp h2 ha hg hdb he hpl
theorem dcnC (i : Nat) {y : Str} {p0 : Pos} (D : Dn X.prog X.w X.K X.mg X.base T x k ps S) (hr : Room k X.A) (hA : X.A.guards = some [])
    (ha : PA X es (liftA X.K Z was)) (hN : X.N[i]? = some y := by rfl) (hv : Vis X.env.scope y := by first | exact Or.inl rfl | exact Or.inr (Or.inl rfl) | exact Or.inr (Or.inr rfl)) (hd : (y == ("__debug__" : Str)) = false := by decide)
    (hcd : (y == ("__classdict__" : Str)) = false := by decide) (hg : Gl X x := by rfl) (hdb : (x == ("__debug__" : Str)) = false := by decide)
    (he : starEach (.Name y p0 :: es) X.env = (false, eval (.Name y p0) X.env) :: starEach es X.env := by rfl) (hpl : (backTo pos (starEach es X.env)).any (·.1) = false := by rfl) :
    PE X (.Call (.Name x p) (.Name y p0 :: es) [] pos) (liftX X.K Z (dCallC S i was)) := by
  obtain ⟨fd, h1, h2⟩ := D.ex
  exact dcallC i h1 hr hA D.glo D.kp h2 ha hN hv hd hcd hg hdb he hpl
end
/-- the goal that a head by facts leaves -/
theorem walk_dataE {l : PySem.W.OpenLaw} {n k : Nat} {q : Program} {loose : List Str} {XP : (Str → Option Value) → Heap → Prop} {YP : World → Heap → Prop} {d : DefRec} {x : Str}
    (hn : l.most = some n) (hn2 : n ≤ sizeLine) (hdf : d.params.defaults = []) (hr : Room k callerA)
    (Fn : ∀ (w : World) (mg : Str → Option Value) (fa : Addr) (h : Heap), YP w h → h.Ns mainGlobals mg → mg d.name = some (.ref fa) →
      ∃ (K : PySem.W.Frag) (fd : FuncData), K.In h ∧ SysD h ∧ (∀ (s : Shared) (u : Value), BindsTo s fd ⟨[u], []⟩ [(x, u)]) ∧
        ∀ base : Heap, K.In base → base.Ns mainGlobals mg → SysD base → FnG l.prog w K mg base [] k fa fd [x] (lawS n)) :
    PySem.W.WalkO q loose XP YP l.row.toRowW d [] (fun f vs => PySem.call f vs) := by
  refine Att.attach_call hn hdf fun w s₀ s₁ mg mb fa o pm cd doc a vs ns G Y ho hd hcd hmg hobj hints hlen hg => ?_
  obtain ⟨K, fd, KX, hsys, hb, hF⟩ := Fn w mg fa _ Y G.T.g hmg
  exact law_data KX G.T.g G.T.b G.T.builtins G.T.nolimit hg hobj hints hlen hn2 hr hsys hF hb
theorem sysB_of {h : Heap} (e : sysB h.get? = true) : SysD h := by
  unfold sysB at e
  split at e
  · rename_i c di es ep sl z
    exact ⟨_, es, ep, z, rfl⟩
  · cases e
end DL

namespace DL
variable {T : List (PySem.Addr × PySem.Str)} {Z : Zx T}
open PySem PySem.Spec PyProof.Rows L2
open Evl (Ex)

mutual
/-- leaves that can be shown -/
def rp : PyData → Bool
  | .none => true
  | .bool _ => true
  | .int i => decide (i.natAbs < 10 ^ 250)
  | .str x => x.cps.toList.all fun c => decide (c < 16 ^ 8)
  | .list xs => rpAll xs
  | .tuple xs => rpAll xs
  | .dict kvs => kvs.isEmpty
def rpAll : List PyData → Bool
  | [] => true
  | x :: xs => rp x && rpAll xs
end
section
variable {X : Cx} {K : PySem.W.Frag} {e : Expr} {es : List Expr} {p pos : Pos} {was : DA} {k : Nat}
/-- sum of a list, of a tuple of whole numbers -/
def rSumD (K : PySem.W.Frag) : List V → Hp → VK → Prop := fun vs H Q => ∃ (a : Addr) (ns : List Int), vs = [.ref a] ∧ (SqL K H a (ns.map V.int) ∨ SqT K H a (ns.map V.int)) ∧ Q (.int ns.sum) H
theorem call_sumD (hc : X.calm = true) : CallR X (.builtin "sum") (rSumD X.K) := by
  intro pins s σ H xs us Q I r h
  obtain ⟨a, ns, rfl, h | h, q⟩ := h
  · exact cr_sum hc pins s σ H _ us Q I r ⟨a, ns, rfl, h, q⟩
  · cases r.ref1
    obtain ⟨its, rv, ht, hz⟩ := I.tuple h
    have hi := rv.ints
    obtain ⟨xs, hx⟩ := hi.allInts.items
    have hn : numsOf its.toArray.toList = ns := by rw [show its.toArray.toList = its from rfl, hi.numsOf]
    have ht2 : s.heap.IsTuple a its.toArray := ht
    rw [hx] at ht2 hn
    rw [nums_intItems] at hn
    refine PySem.W.ktm_sumG (I.ok.hd hc) ht2 fun h' tk t' hk => ?_
    rw [preSum_eq, List.take_of_length_le (by simp), hn]
    exact ⟨.int ns.sum, H, I.kept hk, ⟨_, rfl⟩, q⟩
def nSum (xs : List PyData) (P : PyData → Prop) : Prop := match xs with
  | [.list ds] => (match intsD ds with | some ns => P (.int ns.sum) | none => False)
  | [.tuple ds] => (match intsD ds with | some ns => P (.int ns.sum) | none => False)
  | _ => False
theorem dsum (hm : X.mg "sum" = none) (hc : X.calm = true) (ha : PA X (e :: es) (liftA X.K Z was)) (hg : Gl X "sum" := by rfl)
    (he : starEach (e :: es) X.env = (false, eval e X.env) :: starEach es X.env := by rfl) (hpl : (backTo pos (starEach es X.env)).any (·.1) = false := by rfl) : PE X (.Call (.Name "sum" p) (e :: es) [] pos) (liftE X.K Z (dB nSum was)) :=
  dcb (call_sumD hc) (fun _ _ g F env σ H vs ds P Q k r f q => by
    unfold nSum at f
    split at f
    · split at f
      · rename_i ns e
        obtain ⟨v, rfl, r0⟩ := r.inv1
        obtain ⟨a, us, rfl, h1, h2⟩ := r0.inv_lst
        cases ints_rel h2 e
        exact ⟨a, ns, rfl, .inl (h1.mono k.fh).sq, q _ _ F H f (Ex.refl F) k (.int _)⟩
      · exact f.elim
    · split at f
      · rename_i ns e
        obtain ⟨v, rfl, r0⟩ := r.inv1
        obtain ⟨a, us, rfl, h1, h2⟩ := r0.inv_tup
        cases ints_rel h2 e
        exact ⟨a, ns, rfl, .inr (Evl.ex_t k.fh h1), q _ _ F H f (Ex.refl F) k (.int _)⟩
      · exact f.elim
    · exact f.elim) hm (by decide +kernel) ha hg (by decide) (by decide) he hpl
end
end DL

namespace DL
variable {T : List (PySem.Addr × PySem.Str)} {Z : Zx T}
open PySem PySem.Spec PyProof.Rows L2

section
variable {I S : Type}
theorem qFor_go {b : PyData → I → S → (I → S → Prop) → (I → S → Prop) → Prop} {items : List PyData} {i : I} {K : S → Prop} (Inv : Nat → S → Prop)
    (step : ∀ (k : Nat) (d : PyData) (s : S) (nx : I → S → Prop), items[k]? = some d → Inv k s → (∀ s', Inv (k + 1) s' → nx i s') → b d i s nx (same i K))
    (fin : ∀ s, Inv items.length s → K s) : ∀ (m k : Nat) (s : S), k + m = items.length → Inv k s → qFor b i (items.drop k) s K
  | 0, k, s, hm, h => by
    have e : k = items.length := by omega
    subst e
    rw [List.drop_length]
    exact fin s h
  | m + 1, k, s, hm, h => by
    have hk : k < items.length := by omega
    rw [List.drop_eq_getElem_cons hk]
    exact step k _ s _ (by simp [hk]) h fun s' h' => ⟨rfl, qFor_go Inv step fin m (k + 1) s' (by omega) h'⟩
/-- a for, by what holds ahead of each turn -/
theorem qFor_ind {b : PyData → I → S → (I → S → Prop) → (I → S → Prop) → Prop} {items : List PyData} {i : I} {s : S} {K : S → Prop} (Inv : Nat → S → Prop) (h0 : Inv 0 s)
    (step : ∀ (k : Nat) (d : PyData) (s : S) (nx : I → S → Prop), items[k]? = some d → Inv k s → (∀ s', Inv (k + 1) s' → nx i s') → b d i s nx (same i K))
    (fin : ∀ s, Inv items.length s → K s) : qFor b i items s K := qFor_go Inv step fin items.length 0 s (by omega) h0
/-- a for over a range -/
theorem qFor_range {b : PyData → I → S → (I → S → Prop) → (I → S → Prop) → Prop} {lo : Int} {n : Nat} {i : I} {s : S} {K : S → Prop} (Inv : Nat → S → Prop) (h0 : Inv 0 s)
    (step : ∀ (k : Nat) (s : S) (nx : I → S → Prop), k < n → Inv k s → (∀ s', Inv (k + 1) s' → nx i s') → b (.int (lo + k)) i s nx (same i K))
    (fin : ∀ s, Inv n s → K s) : qFor b i (rangeD lo n) s K := by
  have hl : (rangeD lo n).length = n := by simp [rangeD]
  refine qFor_ind Inv h0 (fun k d s nx hd hi hn => ?_) fun s h => fin s (by rwa [hl] at h)
  unfold rangeD at hd
  rw [List.getElem?_map] at hd
  by_cases hk : k < n
  · rw [List.getElem?_range hk] at hd
    cases hd
    exact step k s nx hk hi hn
  · rw [List.getElem?_eq_none (by simp; omega)] at hd
    cases hd
theorem qWhile_go {b : I → S → (I → S → Prop) → (I → S → Prop) → Prop} {i : I} {K : S → Prop} (Inv : Nat → S → Prop)
    (step : ∀ (m : Nat) (s : S) (nx : I → S → Prop), Inv m s → (∀ m' s', m' < m → Inv m' s' → nx i s') → b i s nx (same i K)) : ∀ (n m : Nat) (s : S), m < n → Inv m s → qWhileN b i n s K
  | 0, _, _, h, _ => absurd h (Nat.not_lt_zero _)
  | n + 1, m, s, h, hi => step m s _ hi fun m' s' hm hi' => ⟨rfl, qWhile_go Inv step n m' s' (by omega) hi'⟩
/-- a while, by a measure that falls -/
theorem qWhile_ind {b : I → S → (I → S → Prop) → (I → S → Prop) → Prop} {i : I} {s : S} {K : S → Prop} (Inv : Nat → S → Prop) {m : Nat} (h0 : Inv m s)
    (step : ∀ (m : Nat) (s : S) (nx : I → S → Prop), Inv m s → (∀ m' s', m' < m → Inv m' s' → nx i s') → b i s nx (same i K)) : qWhile b i s K := ⟨m + 1, qWhile_go Inv step (m + 1) m s (Nat.lt_succ_self m) h0⟩
theorem qLc_go {b : PyData → I → S → (I → S → Prop) → (PyData → I → S → Prop) → Prop} {items : List PyData} {i : I} {K : List PyData → S → Prop} (Inv : Nat → List PyData → S → Prop)
    (step : ∀ (k : Nat) (d : PyData) (acc : List PyData) (s : S) (sk : I → S → Prop) (yd : PyData → I → S → Prop), items[k]? = some d → Inv k acc s → (∀ s', Inv (k + 1) acc s' → sk i s') →
      (∀ y s', acc.length < 100000 → Inv (k + 1) (acc ++ [y]) s' → yd y i s') → b d i s sk yd) (hz : ∀ k acc s, k < items.length → Inv k acc s → acc.length < 100000)
    (fin : ∀ acc s, Inv items.length acc s → K acc s) : ∀ (m k : Nat) (acc : List PyData) (s : S), k + m = items.length → Inv k acc s → qLc b i (items.drop k) acc s K
  | 0, k, acc, s, hm, h => by
    have e : k = items.length := by omega
    subst e
    rw [List.drop_length]
    exact fin acc s h
  | m + 1, k, acc, s, hm, h => by
    have hk : k < items.length := by omega
    rw [List.drop_eq_getElem_cons hk]
    exact step k _ acc s _ _ (by simp [hk]) h (fun s' h' => ⟨rfl, qLc_go Inv step hz fin m (k + 1) acc s' (by omega) h'⟩) fun y s' hl h' => ⟨rfl, hz k acc s hk h, qLc_go Inv step hz fin m (k + 1) (acc ++ [y]) s' (by omega) h'⟩
/-- a comprehension, by what holds ahead of each turn -/
theorem qLc_ind {b : PyData → I → S → (I → S → Prop) → (PyData → I → S → Prop) → Prop} {items : List PyData} {i : I} {s : S} {K : List PyData → S → Prop} (Inv : Nat → List PyData → S → Prop) (h0 : Inv 0 [] s)
    (hz : ∀ k acc s, k < items.length → Inv k acc s → acc.length < 100000)
    (step : ∀ (k : Nat) (d : PyData) (acc : List PyData) (s : S) (sk : I → S → Prop) (yd : PyData → I → S → Prop), items[k]? = some d → Inv k acc s → (∀ s', Inv (k + 1) acc s' → sk i s') →
      (∀ y s', Inv (k + 1) (acc ++ [y]) s' → yd y i s') → b d i s sk yd)
    (fin : ∀ acc s, Inv items.length acc s → K acc s) : qLc b i items [] s K :=
  qLc_go Inv (fun k d acc s sk yd hd hi h1 h2 => step k d acc s sk yd hd hi h1 fun y s' h => h2 y s' (hz k acc s (List.getElem?_eq_some_iff.mp hd).1 hi) h) hz fin items.length 0 [] s (by omega) h0
/-- [f x for x in items], nothing changed -/
theorem qLc_map {b : PyData → I → S → (I → S → Prop) → (PyData → I → S → Prop) → Prop} {items : List PyData} {i : I} {s : S} {K : List PyData → S → Prop} (f : PyData → PyData) (hz : items.length ≤ 100000)
    (step : ∀ d ∈ items, ∀ (sk : I → S → Prop) (yd : PyData → I → S → Prop), yd (f d) i s → b d i s sk yd) (fin : K (items.map f) s) : qLc b i items [] s K :=
  qLc_ind (fun k acc s' => acc = (items.take k).map f ∧ s' = s) ⟨by simp, rfl⟩ (fun k acc s' hk h => by rw [h.1]; simp; omega)
    (fun k d acc s' sk yd hd ⟨h1, h2⟩ _ hy => by
      subst h2
      refine step d (List.mem_of_getElem? hd) sk yd (hy _ _ ⟨?_, rfl⟩)
      rw [List.take_add_one, hd, h1]
      simp) fun acc s' ⟨h1, h2⟩ => by
      subst h1 h2
      rw [List.take_length]
      exact fin
end
theorem ixN_in {n : Nat} {k : Int} (h0 : 0 ≤ k) (h1 : k < n) : ixN n k = some k.toNat := by
  unfold ixN
  rw [if_pos h0, if_pos h1]
theorem atI_in {xs : List PyData} {k : Int} (h0 : 0 ≤ k) (h1 : k < xs.length) : ∃ d, atI xs k = some d ∧ d ∈ xs := by
  unfold atI
  rw [ixN_in h0 h1]
  have hk : k.toNat < xs.length := by omega
  exact ⟨xs[k.toNat], by simp [hk], List.getElem_mem hk⟩
theorem at_of {xs : List PyData} {k : Int} {P : PyData → Prop} (h0 : 0 ≤ k) (h1 : k < xs.length) (h : ∀ d ∈ xs, P d) : pick xs k P := by
  obtain ⟨d, e, m⟩ := atI_in h0 h1
  unfold pick
  rw [e]
  exact h d m
theorem pick_at {xs : List PyData} {k : Nat} {P : PyData → Prop} {d : PyData} (e : xs[k]? = some d) (h : P d) : pick xs (k : Int) P := by
  unfold pick atI
  rw [ixN_in (by omega) (by have := (List.getElem?_eq_some_iff.mp e).1; omega)]
  show match xs[(k : Int).toNat]? with | some d => P d | none => False
  rw [Int.toNat_natCast, e]
  exact h
theorem pick_eq {xs : List PyData} {k : Int} {P : PyData → Prop} {d : PyData} (e : atI xs k = some d) : pick xs k P = P d := by
  unfold pick
  rw [e]
theorem range_get {lo : Int} {n i : Nat} {d : PyData} (h : (rangeD lo n)[i]? = some d) : i < n ∧ d = .int (lo + i) := by
  unfold rangeD at h
  rw [List.getElem?_map] at h
  by_cases hi : i < n
  · rw [List.getElem?_range hi] at h
    cases h
    exact ⟨hi, rfl⟩
  · rw [List.getElem?_eq_none (by simp; omega)] at h
    cases h
theorem range_len {lo : Int} {n : Nat} : (rangeD lo n).length = n := by simp [rangeD]
end DL

namespace DL
variable {T : List (PySem.Addr × PySem.Str)} {Z : Zx T}
open PySem PySem.Spec PyProof.Rows L2
open Evl (Ex)

section
variable {X : Cx} {a b e : Expr} {es : List Expr} {we wa wb : DE} {was : DA} {pos p2 p : Pos} {K : PySem.W.Frag}
abbrev DO := List SD → (Option Int → List SD → Prop) → Prop
def liftO (K : PySem.W.Frag) (Z : Zx T) (w : DO) : TO := fun σ H Q => ∃ (g : Gx Z) (F : Hp) (env : List SD) (P : Option Int → List SD → Prop), Ok K g F env σ H ∧ w env P ∧
  ∀ o env' F' H', P o env' → Ex F F' → Ok K g F' env' σ H' → Q o H'
theorem PO.of {e : Option Expr} {t t' : TO} (h : PO X e t) (w : ∀ σ H Q, t' σ H Q → t σ H Q) : PO X e t' := ⟨fun pins s σ H Q I q => h.run pins s σ H Q I (w σ H Q q)⟩
abbrev dNo (env : List SD) (P : Option Int → List SD → Prop) : Prop := P none env
def soQ (x : PyData) (K : Option Int → Prop) : Prop := match x with
  | .int i => K (some i)
  | _ => False
abbrev dSo (w : DE) (env : List SD) (P : Option Int → List SD → Prop) : Prop := w env fun x env' => soQ x fun o => P o env'
theorem so_none : PO X none (liftO X.K Z dNo) := PO.of po_none fun σ H Q ⟨g, F, env, P, k, w, q⟩ => q none env F H w (Ex.refl F) k
theorem so_some (h : PE X e (liftE X.K Z we)) : PO X (some e) (liftO X.K Z (dSo we)) := PO.of (po_some h) fun σ H Q ⟨g, F, env, P, k, w, q⟩ =>
  ⟨g, F, env, _, k, w, fun d env1 v F1 H1 p e1 k1 r1 => by
    unfold soQ at p
    split at p
    · cases r1.inv_int
      exact ⟨_, rfl, q _ env1 F1 H1 p e1 k1⟩
    · exact p.elim⟩
/-- the items of ds[lo:hi] -/
def cutD (ds : List PyData) (lo hi : Option Int) : List PyData := (ds.drop (HT.sIx ds.length 0 lo)).take (HT.sIx ds.length ds.length hi - HT.sIx ds.length 0 lo)
theorem DRs.cut {H : Hp} {vs : List V} {ds : List PyData} (lo hi : Option Int) (h : DRs K H vs ds) : DRs K H (cutV vs lo hi) (cutD ds lo hi) := by
  unfold cutV cutD
  rw [h.length]
  exact (h.drop _).take _
def oSl (x : PyData) (lo hi : Option Int) (P : PyData → Prop) : Prop := match x with
  | .tuple ds => P (.tuple (cutD ds lo hi))
  | .list ds => P (.list (cutD ds lo hi))
  | .str z => z.length ≤ 100000 ∧ P (.str (cutS z lo hi))
  | _ => False
abbrev dSl (w : DE) (l h : DO) (env : List SD) (P : PyData → List SD → Prop) : Prop := w env fun x env1 => l env1 fun lo env2 => h env2 fun hi env3 => oSl x lo hi fun d => P d env3
theorem cutD_whole {xs : List PyData} {lo hi : Option Int} (h : HT.sIx xs.length 0 lo = 0 ∧ HT.sIx xs.length xs.length hi = xs.length) : cutD xs lo hi = xs := by
  unfold cutD
  rw [h.1, h.2]
  simp
theorem dsl {l u : Option Expr} {tl tu : DO} (he : PE X e (liftE X.K Z we)) (hl : PO X l (liftO X.K Z tl)) (hu : PO X u (liftO X.K Z tu)) : PE X (.Subscript e (.Slice l u none p2) pos) (liftE X.K Z (dSl we tl tu)) :=
  PE.of (pe_slice (SlR.or sl_tupZ (SlR.or sl_list sl_str)) he hl hu) fun σ H Q ⟨g, F, env, P, k, w, q⟩ =>
    ⟨g, F, env, _, k, w, fun d env1 v F1 H1 p e1 k1 r1 => ⟨g, F1, env1, _, k1, p, fun lo env2 F2 H2 p2 e2 k2 => ⟨g, F2, env2, _, k2, p2, fun hi env3 F3 H3 p3 e3 k3 => by
      have r3 := (r1.mono e2).mono e3
      have e13 := e1.trans (e2.trans e3)
      unfold oSl at p3
      split at p3
      · rename_i ds
        obtain ⟨a, us, rfl, h1, h2⟩ := r3.inv_tup
        refine .inl ⟨a, us, rfl, Evl.ex_t k3.fh h1, fun hw => ?_, fun _ x o hx ho => ?_⟩
        · rw [h2.length] at hw
          rw [cutD_whole hw] at p3
          exact q _ env3 _ F3 H3 p3 e13 k3 r3
        · obtain ⟨e4, k4, r4⟩ := k3.newTup hx ho (h2.cut lo hi)
          exact q _ env3 _ _ _ p3 (e13.trans e4) k4 r4
      · rename_i ds
        obtain ⟨a, us, rfl, h1, h2⟩ := r3.inv_lst
        refine .inr (.inl ⟨a, us, rfl, (h1.mono k3.fh).sq, fun x hx => ?_⟩)
        obtain ⟨e4, k4, r4⟩ := k3.newLst hx (h2.cut lo hi)
        exact q _ env3 _ _ _ p3 (e13.trans e4) k4 r4
      · cases r3.inv_str
        exact .inr (.inr ⟨_, rfl, sz2 p3.1, q _ env3 _ F3 H3 p3.2 e13 k3 (.str _)⟩)
      · exact p3.elim⟩⟩⟩
def lstQ (x : PyData) (K : List PyData → Prop) : Prop := match x with
  | .list ds => K ds
  | _ => False
def nInt (xs : List PyData) (P : PyData → Prop) : Prop := match xs with
  | [.int i] => P (.int i)
  | [.bool i] => P (.int (if i then 1 else 0))
  | _ => False
theorem dintOf (hm : X.mg "int" = none) (ha : PA X (e :: es) (liftA X.K Z was)) (hg : Gl X "int" := by rfl)
    (he : starEach (e :: es) X.env = (false, eval e X.env) :: starEach es X.env := by rfl) (hpl : (backTo pos (starEach es X.env)).any (·.1) = false := by rfl) : PE X (.Call (.Name "int" p) (e :: es) [] pos) (liftE X.K Z (dB nInt was)) :=
  dct call_int1 (fun _ _ g F env σ H vs ds P Q k r f q => by
    unfold nInt at f
    split at f
    · obtain ⟨v, rfl, r0⟩ := r.inv1
      cases r0.inv_int
      exact .inl ⟨_, rfl, q _ _ F H f (Ex.refl F) k (.int _)⟩
    · obtain ⟨v, rfl, r0⟩ := r.inv1
      cases r0.inv_bool
      exact .inr ⟨_, rfl, q _ _ F H f (Ex.refl F) k (.int _)⟩
    · exact f.elim) hm (by decide +kernel) ha hg (by decide) (by decide) he hpl
def nTuple (xs : List PyData) (P : PyData → Prop) : Prop := match xs with
  | [.list ds] => P (.tuple ds)
  | [.tuple ds] => P (.tuple ds)
  | [.dict [(.none, .list ds)]] => P (.tuple ds)
  | _ => False
theorem call_tupleR : CallR X (.type "tuple") (fun xs H Q => ∃ x, xs = [x] ∧ kTupZ X.K x H Q) := by
  intro pins s σ H xs us Q I r h
  obtain ⟨x, rfl, q⟩ := h
  cases r with
  | cons r rr =>
    cases rr
    exact rl_tupleZ pins s σ H x _ Q I r q
theorem dtupleOf (hm : X.mg "tuple" = none) (ha : PA X (e :: es) (liftA X.K Z was)) (hg : Gl X "tuple" := by rfl)
    (he : starEach (e :: es) X.env = (false, eval e X.env) :: starEach es X.env := by rfl) (hpl : (backTo pos (starEach es X.env)).any (·.1) = false := by rfl) : PE X (.Call (.Name "tuple" p) (e :: es) [] pos) (liftE X.K Z (dB nTuple was)) :=
  dct call_tupleR (fun _ _ g F env σ H vs ds P Q k r f q => by
    unfold nTuple at f
    split at f
    · obtain ⟨v, rfl, r0⟩ := r.inv1
      obtain ⟨a, us, rfl, h1, h2⟩ := r0.inv_lst
      refine ⟨_, rfl, .inl ⟨a, us, rfl, (h1.mono k.fh).sq, fun x o hx ho => ?_⟩⟩
      obtain ⟨e4, k4, r4⟩ := k.newTup hx ho h2
      exact q _ _ _ _ f e4 k4 r4
    · obtain ⟨v, rfl, r0⟩ := r.inv1
      obtain ⟨a, us, rfl, h1, h2⟩ := r0.inv_tup
      exact ⟨_, rfl, .inr ⟨a, us, rfl, Evl.ex_t k.fh h1, q _ _ F H f (Ex.refl F) k r0⟩⟩
    · obtain ⟨v, rfl, r0⟩ := r.inv1
      cases r0 with
      | dct _ m => cases m
      | row h1 h2 =>
        refine ⟨_, rfl, .inl ⟨_, _, rfl, SqL.of (k.fh _ _ h1), fun x o hx ho => ?_⟩⟩
        obtain ⟨e4, k4, r4⟩ := k.newTup hx ho h2
        exact q _ _ _ _ f e4 k4 r4
      | opq _ x => rcases x with x | ⟨_, x, _⟩ <;> cases x
    · exact f.elim) hm (by decide +kernel) ha hg (by decide) (by decide) he hpl
/-- tuple(xs) of a name's own cell -/
abbrev dTupC (i : Nat) (env : List SD) (P : PyData → List SD → Prop) : Prop := match env[i]? with
  | some (.cel _ xs) => P (.tuple xs) env
  | _ => False
theorem dtupC (i : Nat) {x : Str} {p0 : Pos} (hm : X.mg "tuple" = none) (hN : X.N[i]? = some x := by rfl)
    (hv : Vis X.env.scope x := by first | exact Or.inl rfl | exact Or.inr (Or.inl rfl) | exact Or.inr (Or.inr rfl)) (hd : (x == ("__debug__" : Str)) = false := by decide) (hcd : (x == ("__classdict__" : Str)) = false := by decide) (hg : Gl X "tuple" := by rfl)
    (na : starEach [.Name x p0] X.env = (false, eval (.Name x p0) X.env) :: starEach [] X.env := by rfl) : PE X (.Call (.Name "tuple" p) [.Name x p0] [] pos) (liftE X.K Z (dTupC i)) :=
  PE.of (pe_tupleZ hg hm (pe_var hN hv hd hcd) na) fun σ H Q ⟨g, F, env, P, k, w, q⟩ => by
    unfold dTupC at w
    split at w
    · rename_i p xs e
      obtain ⟨a0, vs, h1, h2, h3, h4, h5⟩ := k.cel i p xs e
      refine ⟨_, h1, .inl ⟨a0, vs, rfl, SqL.of h3, fun x o hx ho => ?_⟩⟩
      obtain ⟨e4, k4, r4⟩ := k.newTup hx ho h4
      exact q _ _ _ _ _ w e4 k4 r4
    · exact w.elim
def nList (xs : List PyData) (P : List PyData → Prop) : Prop := match xs with
  | [.list ds] => P ds
  | [.tuple ds] => P ds
  | _ => False
/-- list(..): a new cell -/
abbrev dListOf (wa : DA) (env : List SD) (P : SD → List SD → Prop) : Prop := wa env fun xs env' => nList xs fun ds => P (.cel false ds) env'
theorem dlistOf (hm : X.mg "list" = none) (ha : PA X (e :: es) (liftA X.K Z was)) (hg : Gl X "list" := by rfl)
    (he : starEach (e :: es) X.env = (false, eval e X.env) :: starEach es X.env := by rfl) (hpl : (backTo pos (starEach es X.env)).any (·.1) = false := by rfl) : PE X (.Call (.Name "list" p) (e :: es) [] pos) (liftX X.K Z (dListOf was)) :=
  PE.of (pe_callTy call_list_of hg hm (by decide +kernel) ha (by decide) (by decide) he hpl) fun σ H Q ⟨g, F, env, P, k, w, q⟩ =>
    ⟨g, F, env, _, k, w, fun ds env1 vs F1 H1 p e1 k1 r1 => by
      unfold nList at p
      split at p
      · obtain ⟨v, rfl, r0⟩ := r1.inv1
        obtain ⟨a, us, rfl, h1, h2⟩ := r0.inv_lst
        refine ⟨a, us, rfl, .inl (h1.mono k1.fh).sq, fun x hx => ?_⟩
        obtain ⟨k4, r4⟩ := k1.newCell hx h2
        exact q _ _ _ _ _ p e1 k4 r4
      · obtain ⟨v, rfl, r0⟩ := r1.inv1
        obtain ⟨a, us, rfl, h1, h2⟩ := r0.inv_tup
        refine ⟨a, us, rfl, .inr (Evl.ex_t k1.fh h1), fun x hx => ?_⟩
        obtain ⟨k4, r4⟩ := k1.newCell hx h2
        exact q _ _ _ _ _ p e1 k4 r4
      · exact p.elim⟩
/-- a name's own cell stays as it is from here on, or its datum -/
abbrev dFreeze2 (i : Nat) (w : DS) (E : DEnds) (env : List SD) : Prop := match env[i]? with
  | some (.cel false xs) => w E (env.set i (.dat (.list xs)))
  | some (.dat _) => w E env
  | _ => False
theorem ssfreeze2 {sts : List Stmt} {m : Nat} {w : DS} (i : Nat) (h : PSs X sts (liftS X.K Z m w)) : PSs X sts (liftS X.K Z m (dFreeze2 i w)) := PSs.of h fun D σ H ⟨g, F, env, P, k, w, q⟩ => by
  unfold dFreeze2 at w
  split at w
  · rename_i xs e
    obtain ⟨F', e1, k1⟩ := k.freeze e
    exact ⟨g, F', _, P, k1, w, q.ex e1⟩
  · exact ⟨g, F, env, P, k, w, q⟩
  · exact w.elim
end
end DL

namespace DL
variable {T : List (PySem.Addr × PySem.Str)} {Z : Zx T}
open PySem PySem.Spec PyProof.Rows L2
open Evl (Ex)

section
variable {X : Cx} {a b e : Expr} {es : List Expr} {we wa wb : DE} {was : DA} {pos p p1 p2 p3 : Pos} {K : PySem.W.Frag}
theorem DRs.snoc {H : Hp} {v : V} {d : PyData} : ∀ {vs : List V} {ds : List PyData}, DRs K H vs ds → DR K H v d → DRs K H (vs ++ [v]) (ds ++ [d])
  | _, _, .nil, r => .cons r .nil
  | _, _, .cons h t, r => .cons h (DRs.snoc t r)
end
end DL

namespace DL
variable {T : List (PySem.Addr × PySem.Str)} {Z : Zx T}
open PySem PySem.Spec PyProof.Rows L2
open Evl (Ex)

def jn {α : Type} (f : α → Prop) (k : α) : Prop := f k
def tAnd (b : Bool) (u : (Bool → Prop) → Prop) (K : Bool → Prop) : Prop := bIf b (u K) (K false)
def tOr (b : Bool) (u : (Bool → Prop) → Prop) (K : Bool → Prop) : Prop := bIf b (K true) (u K)
def vAnd (b : Bool) (u : (PyData → Prop) → Prop) (K : PyData → Prop) : Prop := bIf b (u K) (K (.bool false))
def vOr (b : Bool) (u : (PyData → Prop) → Prop) (K : PyData → Prop) : Prop := bIf b (K (.bool true)) (u K)
def vIf (b : Bool) (u v : (PyData → Prop) → Prop) (K : PyData → Prop) : Prop := bIf b (u K) (v K)
theorem at_env {t : DS} {E : DEnds} {a b : List SD} (e : a = b) (h : t E b) : t E a := e ▸ h
theorem cels1 {c : List PyData} {ds : List PyData} {i : Nat} {p : Bool} {xs : List PyData} (e : (SD.cel true c :: ds.map .dat)[i]? = some (.cel p xs)) : i < 1 := by
  cases i with
  | zero => exact Nat.zero_lt_one
  | succ i => exact absurd (by simpa using e) (no_cel (ds := ds) i p xs)
end DL

namespace DL
variable {T : List (PySem.Addr × PySem.Str)} {Z : Zx T}
open PySem PySem.Spec PyProof.Rows L2
open Evl (Ex)
section
variable {X : Cx} {a b e : Expr} {es : List Expr} {we wa wb : DE} {was : DA} {pos p p1 p2 p3 : Pos} {K : PySem.W.Frag} {m : Nat}
theorem DRs.flat {F : Hp} {vs : List V} {ds : List PyData} (r : DRs K F vs ds) : ∀ n : Nat, DRs K F (List.replicate n vs).flatten (List.replicate n ds).flatten
  | 0 => .nil
  | n + 1 => by
    rw [List.replicate_succ, List.replicate_succ, List.flatten_cons, List.flatten_cons]
    exact r.append (DRs.flat r n)
theorem tuple_mul1 (l : Addr) (items : Array Value) (n : Nat) (dd : Option Addr) (sl : Array (Option Value)) (u : Tok) :
    Meets (Builtin.«tuple.__mul__» ⟨[.ref l, .int 1 u], []⟩) (fun _ R s => s.heap.get? l = some { cls := .type "tuple", dict := dd, data := .seq items n, slots := sl } ∧ R (.ok (.ret (Value.ref l))) s) :=
  .of_wp fun prog w A R s h => by
    obtain ⟨hp, g, d, tk, os⟩ := s
    obtain ⟨hl, h⟩ := h
    have f1 := AutoSeq1.idx_int
    have c1 : (items.isEmpty || (1 : Int) == 1) = true := by simp
    wp_walk using wpAny_loadPart' hl
    repeat (first
      | (refine wpAny_ite_false (decide_eq_false (by decide)) ?_; wp_walk using wpAny_loadPart' hl)
      | (refine wpAny_ite_true (decide_eq_true c1) ?_; wp_walk using wpAny_loadPart' hl))
    exact ⟨_, rfl, h⟩
def rRepT1 (K : PySem.W.Frag) : R2 := fun x y H Q => ∃ l xs, x = .ref l ∧ y = .int 1 ∧ SqT K H l xs ∧ Q (.ref l) H
theorem op_repT1 {X : Cx} : OpR X (binaryOp .Mult) (rRepT1 X.K) := by
  intro pins s σ H x y v u Q I rx ry h
  obtain ⟨l, xs, rfl, rfl, hT, q⟩ := h
  cases rx
  obtain ⟨t, rfl⟩ := ry
  obtain ⟨its, r, ⟨⟨cls, dd, data, sl⟩, ho, hc, n, hd⟩, hs⟩ := I.tuple hT
  simp only at hc hd
  subst hc hd
  exact wpAny_binaryOp_repeat_ref (T := "tuple") (U := "int") (by decide) ⟨_, ho, rfl⟩ (fun s' => typeIs_int s' 1 t) noFill_tuple_mul F.fills_int_mul F.slot_int_rmul repeat_tuple F.slot_int_index.lookup
    (call_meets F.slot_int_rmul (typeIs_int s 1 t) F.entry_int_rmul (F.args_int_rmul_2 _ _) (int_rmul_tuple 1 t l its.toArray n dd sl)
      ⟨ho, rfl, ⟨_, ho, rfl⟩, call_meets F.slot_tuple_mul ⟨_, ho, rfl⟩ F.entry_tuple_mul (F.args_tuple_mul_2 _ _) (tuple_mul1 l its.toArray n dd sl t) ⟨ho, ⟨.ref l, H, I, rfl, q⟩⟩⟩)
def oMul (x y : PyData) (P : PyData → Prop) : Prop := match x, y with
  | .int i, .int j => (Sz i ∧ Sz j) ∧ P (.int (i * j))
  | .tuple xs, .int k => (xs ≠ [] ∧ 1 ≤ k ∧ k ≤ 1000 ∧ xs.length ≤ 1000) ∧ P (.tuple (List.replicate k.toNat xs).flatten)
  | _, _ => False
theorem opd_mul {r : R2} (h : OpD K r oMulI) : OpD K (fun x y H Q => r x y H Q ∨ (rRepT1 K x y H Q ∨ rRepZ K x y H Q)) oMul := by
  intro _ _ g F env σ H vx vy dx dy P Q k rx ry p q
  unfold oMul at p
  split at p
  · exact .inl (h _ _ g F env σ H vx vy _ _ P Q k rx ry p q)
  · rename_i xs n
    cases ry.inv_int
    obtain ⟨a, us, rfl, h1, h2⟩ := rx.inv_tup
    obtain ⟨⟨z1, z2, z3, z4⟩, p⟩ := p
    by_cases e1 : n = 1
    · subst e1
      have e : (List.replicate (Int.toNat 1) xs).flatten = xs := by
        show (List.replicate 1 xs).flatten = xs
        simp
      rw [e] at p
      exact .inr (.inl ⟨a, us, rfl, rfl, Evl.ex_t k.fh h1, q _ _ F H p (Ex.refl F) k rx⟩)
    refine .inr (.inr ⟨a, n, us, rfl, rfl, Evl.ex_t k.fh h1, fun e => z1 ?_, by omega, z3, by rw [h2.length]; exact z4, fun x o hx ho => ?_⟩)
    · subst e
      cases h2
      rfl
    · obtain ⟨e2, k2, r2⟩ := k.newTup hx ho (DRs.flat h2 n.toNat)
      exact q _ _ _ _ p e2 k2 r2
  · exact p.elim
theorem dmul (ha : PE X a (liftE X.K Z wa)) (hb : PE X b (liftE X.K Z wb)) : PE X (.BinOp a .Mult b pos) (liftE X.K Z (dOp oMul wa wb)) := dop (OpR.or op_mulW (OpR.or op_repT1 op_repZ)) (opd_mul (opd_I (fun _ _ h => by have h1 := h.1.log; have h2 := h.2.log; unfold CMulW; omega) fun _ _ _ => .int _)) ha hb
/-- xs[::-1] of a list, that stays -/
def oRev (x : PyData) (P : PyData → Prop) : Prop := lstQ x fun ds => P (.list ds.reverse)
end
end DL

namespace DL
variable {T : List (PySem.Addr × PySem.Str)} {Z : Zx T}
open PySem PySem.Spec PyProof.Rows L2
section
variable {P K : PyData → Prop} {a b c : Int} {x y : PyData} {xs ys : List PyData} {T : Bool → Prop}
theorem q_bT : bT (.bool t) T = T t := rfl
theorem q_add : oAdd (.int a) (.int b) P = P (.int (a + b)) := rfl
theorem q_addT : oAdd (.tuple xs) (.tuple ys) P = (xs.length + ys.length ≤ 100000 ∧ P (.tuple (xs ++ ys))) := rfl
theorem q_addL : oAdd (.list xs) (.list ys) P = (xs.length + ys.length ≤ 100000 ∧ P (.list (xs ++ ys))) := rfl
theorem q_addS {i j : Str} : oAdd (.str i) (.str j) P = (i.length + j.length ≤ 100000 ∧ P (.str (i ++ j))) := rfl
theorem q_sub : oSub (.int a) (.int b) P = P (.int (a - b)) := rfl
theorem q_mul : oMul (.int a) (.int b) P = ((Sz a ∧ Sz b) ∧ P (.int (a * b))) := rfl
theorem q_mulT : oMul (.tuple xs) (.int b) P = ((xs ≠ [] ∧ 1 ≤ b ∧ b ≤ 1000 ∧ xs.length ≤ 1000) ∧ P (.tuple (List.replicate b.toNat xs).flatten)) := rfl
theorem q_div : oDiv (.int a) (.int b) P = ((0 < b ∧ Sz b) ∧ P (.int (a / b))) := rfl
theorem q_mod : oMod (.int a) (.int b) P = (0 < b ∧ P (.int (a % b))) := rfl
theorem q_pow : oPow (.int a) (.int b) P = ((Sz a ∧ 0 ≤ b ∧ b ≤ 10000) ∧ P (.int (a ^ b.toNat))) := rfl
theorem q_neg : oNeg (.int a) P = P (.int (-a)) := rfl
theorem q_lt : oLt (.int a) (.int b) P = P (.bool (decide (a < b))) := rfl
theorem q_le : oLe (.int a) (.int b) P = P (.bool (decide (a ≤ b))) := rfl
theorem q_gt : oGt (.int a) (.int b) P = P (.bool (decide (b < a))) := rfl
theorem q_ge : oGe (.int a) (.int b) P = P (.bool (decide (b ≤ a))) := rfl
theorem q_oI {f : Int → Int → PyData} : oI f (.int a) (.int b) P = P (f a b) := rfl
theorem shaped_int : SeqAt.shaped (.int a) = true := by unfold SeqAt.shaped; rfl
theorem q_eq : oEq (.int a) (.int b) P = P (.bool (decide (a = b))) := by
  show ((SeqAt.shaped (.int a) = true ∧ SeqAt.shaped (.int b) = true) ∧ P (.bool (eqD (.int a) (.int b)))) = _
  rw [eqD_int]
  simp only [shaped_int, and_self, true_and]
theorem q_ne : oNe (.int a) (.int b) P = P (.bool (!decide (a = b))) := by
  show ((SeqAt.shaped (.int a) = true ∧ SeqAt.shaped (.int b) = true) ∧ P (.bool (!eqD (.int a) (.int b)))) = _
  rw [eqD_int]
  simp only [shaped_int, and_self, true_and]
theorem shaped_bool {t : Bool} : SeqAt.shaped (.bool t) = true := by unfold SeqAt.shaped; rfl
theorem eqD_bool {t u : Bool} : eqD (.bool t) (.bool u) = decide (t = u) := by
  rw [eqD_eq]
  cases t <;> cases u <;> simp [PyData.eqv]
theorem q_eqB {t u : Bool} : oEq (.bool t) (.bool u) P = P (.bool (decide (t = u))) := by
  show ((SeqAt.shaped (.bool t) = true ∧ SeqAt.shaped (.bool u) = true) ∧ P (.bool (eqD (.bool t) (.bool u)))) = _
  rw [eqD_bool]
  simp only [shaped_bool, and_self, true_and]
theorem q_neB {t u : Bool} : oNe (.bool t) (.bool u) P = P (.bool (!decide (t = u))) := by
  show ((SeqAt.shaped (.bool t) = true ∧ SeqAt.shaped (.bool u) = true) ∧ P (.bool (!eqD (.bool t) (.bool u)))) = _
  rw [eqD_bool]
  simp only [shaped_bool, and_self, true_and]
theorem q_eqS {i j : Str} : oEq (.str i) (.str j) P = P (.bool (decide (i = j))) := rfl
theorem q_neS {i j : Str} : oNe (.str i) (.str j) P = P (.bool (!decide (i = j))) := rfl
theorem q_isN : oIsN .none P = P (.bool true) := rfl
theorem q_isNi : oIsN (.int a) P = P (.bool false) := rfl
theorem q_isNt : oIsN (.tuple xs) P = P (.bool false) := rfl
theorem q_isNs {i : Str} : oIsN (.str i) P = P (.bool false) := rfl
theorem q_notN : oNotN .none P = P (.bool false) := rfl
theorem q_notNi : oNotN (.int a) P = P (.bool true) := rfl
theorem q_notNt : oNotN (.tuple xs) P = P (.bool true) := rfl
theorem q_ix : oIx (.tuple xs) (.int a) P = pick xs a P := rfl
theorem q_ixL : oIx (.list xs) (.int a) P = pick xs a P := rfl
theorem q_ixQ : ixQ xs (.int a) P = pick xs a P := rfl
theorem q_len : nLen [.list xs] P = P (.int (xs.length : Nat)) := rfl
theorem q_lenT : nLen [.tuple xs] P = P (.int (xs.length : Nat)) := rfl
theorem q_lenS {i : Str} : nLen [.str i] P = (i.length ≤ 100000 ∧ P (.int (i.length : Nat))) := rfl
theorem q_abs : nAbs [.int a] P = P (.int (if a < 0 then -a else a)) := rfl
theorem q_min : nMin2 [.int a, .int b] P = P (.int (if b < a then b else a)) := rfl
theorem q_max : nMax2 [.int a, .int b] P = P (.int (if b > a then b else a)) := rfl
theorem q_tupleOf : nTuple [.list xs] P = P (.tuple xs) := rfl
theorem q_tupleOfT : nTuple [.tuple xs] P = P (.tuple xs) := rfl
theorem q_int : nInt [.int a] P = P (.int a) := rfl
theorem q_intB {t : Bool} : nInt [.bool t] P = P (.int (if t then 1 else 0)) := rfl
theorem q_list {P : List PyData → Prop} : nList [.list xs] P = P xs := rfl
theorem q_listT {P : List PyData → Prop} : nList [.tuple xs] P = P xs := rfl
theorem q_tup {K : List PyData → Prop} : tupQ (.tuple xs) K = K xs := rfl
theorem q_cons {K : PyData → List PyData → Prop} : consQ (x :: xs) K = K x xs := rfl
theorem q_nil {p : Prop} : nilQ [] p = p := rfl
theorem q_so {K : Option Int → Prop} : soQ (.int a) K = K (some a) := rfl
theorem q_lst {K : List PyData → Prop} : lstQ (.list xs) K = K xs := rfl
theorem q_items {K : List PyData → Prop} : itemsQ (.list xs) K = K xs := At.eq
theorem q_itemsT {K : List PyData → Prop} : itemsQ (.tuple xs) K = K xs := At.eq
theorem q_slT {lo hi : Option Int} : oSl (.tuple xs) lo hi P = P (.tuple (DL.cutD xs lo hi)) := rfl
theorem q_slL {lo hi : Option Int} : oSl (.list xs) lo hi P = P (.list (DL.cutD xs lo hi)) := rfl
theorem q_rev : oRev (.list xs) P = P (.list xs.reverse) := rfl
theorem q_zip {K : List PyData → Prop} : zipQ [.list xs, .list ys] K = K (zipD xs ys) := At.eq
theorem q_zipT {K : List PyData → Prop} : zipQ [.tuple xs, .tuple ys] K = K (zipD xs ys) := At.eq
theorem q_rng1 {K : List PyData → Prop} : rng1 [.int a] K = ((-1000000 ≤ a ∧ a ≤ 1000000) ∧ K (rangeD 0 a.toNat)) := by
  show (_ ∧ At _ _) = _
  rw [At.eq]
theorem q_rng2 {K : List PyData → Prop} : rng2 [.int a, .int b] K = ((-1000000 ≤ a ∧ a ≤ 1000000 ∧ -1000000 ≤ b ∧ b ≤ 1000000) ∧ K (rangeD a (b - a).toNat)) := by
  show (_ ∧ At _ _) = _
  rw [At.eq]
theorem q_all : nAll [.list xs] P = (match boolsD xs with | some bs => P (.bool (bs.all id)) | none => False) := rfl
theorem q_any : nAny [.list xs] P = (match boolsD xs with | some bs => P (.bool (bs.any id)) | none => False) := rfl
theorem q_sum : nSum [.list xs] P = (match intsD xs with | some bs => P (.int bs.sum) | none => False) := rfl
theorem q_sumT : nSum [.tuple xs] P = (match intsD xs with | some bs => P (.int bs.sum) | none => False) := rfl
theorem q_ap {K : List PyData → Prop} : apQ xs x K = (xs.length < 100000 ∧ K (xs ++ [x])) := rfl
theorem bools_map (ds : List PyData) (f : PyData → Bool) : boolsD (ds.map fun d => .bool (f d)) = some (ds.map f) := by
  induction ds with
  | nil => rfl
  | cons d ds ih => simp [boolsD, ih]
theorem ints_map (ns : List Int) : intsD (ns.map .int) = some ns := by
  induction ns with
  | nil => rfl
  | cons d ds ih => simp [intsD, ih]
theorem q_sumI {ns : List Int} : nSum [.list (ns.map .int)] P = P (.int ns.sum) := by rw [q_sum, ints_map]
theorem q_sumTI {ns : List Int} : nSum [.tuple (ns.map .int)] P = P (.int ns.sum) := by rw [q_sumT, ints_map]
theorem q_allB {ds : List PyData} {f : PyData → Bool} : nAll [.list (ds.map fun d => .bool (f d))] P = P (.bool (ds.all f)) := by
  rw [q_all, bools_map]
  simp only [List.all_map]
  rfl
theorem q_anyB {ds : List PyData} {f : PyData → Bool} : nAny [.list (ds.map fun d => .bool (f d))] P = P (.bool (ds.any f)) := by
  rw [q_any, bools_map]
  simp only [List.any_map]
  rfl
section
variable {S : Prop} {t : Bool} {u : (Bool → Prop) → Prop} {v : (PyData → Prop) → Prop} {K : Bool → Prop} {L : PyData → Prop}
theorem q_same {I S : Type} {i : I} {N : S → Prop} {s : S} : same i N i s = N s := propext ⟨fun h => h.2, fun h => ⟨rfl, h⟩⟩
theorem q_jn {α : Type} {f : α → Prop} {k : α} : jn f k = f k := rfl
theorem q_tAnd_k {b c : Bool} {K : Bool → Prop} : tAnd b (fun k => k c) K = K (b && c) := by cases b <;> rfl
theorem q_tOr_k {b c : Bool} {K : Bool → Prop} : tOr b (fun k => k c) K = K (b || c) := by cases b <;> rfl
theorem q_vAnd_k {b c : Bool} : vAnd b (fun k => k (.bool c)) L = L (.bool (b && c)) := by cases b <;> rfl
theorem q_vOr_k {b c : Bool} : vOr b (fun k => k (.bool c)) L = L (.bool (b || c)) := by cases b <;> rfl
theorem q_tAnd_s {b c : Bool} {K : Bool → Prop} {S : Prop} : tAnd b (fun k => S ∧ k c) K = ((b = true → S) ∧ K (b && c)) := by
  cases b
  · simp only [Bool.false_eq_true, false_imp_iff, true_and]; rfl
  · simp only [true_imp_iff, Bool.true_and]; rfl
theorem q_tOr_s {b c : Bool} {K : Bool → Prop} {S : Prop} : tOr b (fun k => S ∧ k c) K = ((b = false → S) ∧ K (b || c)) := by
  cases b
  · simp only [true_imp_iff, Bool.false_or]; rfl
  · simp only [Bool.true_eq_false, false_imp_iff, true_and]; rfl
theorem q_vAnd_s {b c : Bool} {S : Prop} : vAnd b (fun k => S ∧ k (.bool c)) L = ((b = true → S) ∧ L (.bool (b && c))) := by
  cases b
  · simp only [Bool.false_eq_true, false_imp_iff, true_and]; rfl
  · simp only [true_imp_iff, Bool.true_and]; rfl
theorem q_vOr_s {b c : Bool} {S : Prop} : vOr b (fun k => S ∧ k (.bool c)) L = ((b = false → S) ∧ L (.bool (b || c))) := by
  cases b
  · simp only [true_imp_iff, Bool.false_or]; rfl
  · simp only [Bool.true_eq_false, false_imp_iff, true_and]; rfl
theorem q_vIf_k {b : Bool} {x y : PyData} : vIf b (fun k => k x) (fun k => k y) L = L (if b then x else y) := by cases b <;> rfl
theorem q_tAnd_t {K : Bool → Prop} : tAnd true u K = u K := rfl
theorem q_tAnd_f {K : Bool → Prop} : tAnd false u K = K false := rfl
theorem q_tOr_t {K : Bool → Prop} : tOr true u K = K true := rfl
theorem q_tOr_f {K : Bool → Prop} : tOr false u K = u K := rfl
theorem q_vAnd_t : vAnd true v L = v L := rfl
theorem q_vAnd_f : vAnd false v L = L (.bool false) := rfl
theorem q_vOr_t : vOr true v L = L (.bool true) := rfl
theorem q_vOr_f : vOr false v L = v L := rfl
theorem q_vIf_t {v' : (PyData → Prop) → Prop} : vIf true v v' L = v L := rfl
theorem q_vIf_f {v' : (PyData → Prop) → Prop} : vIf false v v' L = v' L := rfl
theorem bIf_of {b : Bool} {p q : Prop} (h1 : b = true → p) (h2 : b = false → q) : bIf b p q := by
  cases b
  · exact h2 rfl
  · exact h1 rfl
theorem bIf_d {c : Prop} [Decidable c] {p q : Prop} (h1 : c → p) (h2 : ¬ c → q) : bIf (decide c) p q := by
  by_cases h : c
  · rw [decide_eq_true h]; exact h1 h
  · rw [decide_eq_false h]; exact h2 h
end
theorem pick_lit {xs : List PyData} (n : Nat) {d : PyData} (e : xs[n]? = some d) : pick xs (n : Int) P = P d := pick_eq (by
  unfold atI
  rw [ixN_in (by omega) (by have := (List.getElem?_eq_some_iff.mp e).1; omega)]
  exact e)
theorem at0 {a : PyData} {l : List PyData} : pick (a :: l) 0 P = P a := pick_lit 0 rfl
theorem at1 {a b : PyData} {l : List PyData} : pick (a :: b :: l) 1 P = P b := pick_lit 1 rfl
theorem at2 {a b c : PyData} {l : List PyData} : pick (a :: b :: c :: l) 2 P = P c := pick_lit 2 rfl
theorem at3 {a b c d : PyData} {l : List PyData} : pick (a :: b :: c :: d :: l) 3 P = P d := pick_lit 3 rfl
theorem at4 {a b c d e : PyData} {l : List PyData} : pick (a :: b :: c :: d :: e :: l) 4 P = P e := pick_lit 4 rfl
theorem at5 {a b c d e f : PyData} {l : List PyData} : pick (a :: b :: c :: d :: e :: f :: l) 5 P = P f := pick_lit 5 rfl
theorem at6 {a b c d e f g : PyData} {l : List PyData} : pick (a :: b :: c :: d :: e :: f :: g :: l) 6 P = P g := pick_lit 6 rfl
theorem atLast {xs : List PyData} {d : PyData} : pick (xs ++ [d]) (-1) P = P d := pick_eq (by
  unfold atI ixN
  rw [if_neg (by decide), if_pos (by simp; omega)]
  show (xs ++ [d])[((-1 : Int) + ((xs ++ [d]).length : Nat)).toNat]? = some d
  rw [show ((-1 : Int) + ((xs ++ [d]).length : Nat)).toNat = xs.length by simp; omega]
  simp)
/-- any item -/
theorem pick_mem {xs : List PyData} {k : Int} (h0 : 0 ≤ k) (h1 : k < xs.length) (h : ∀ d ∈ xs, P d) : pick xs k P := at_of h0 h1 h
theorem st0 {x a : PyData} {r : List PyData} {K : List PyData → Prop} : stQ (a :: r) (.int 0) x K = K (x :: r) := by
  show (match ixN (a :: r).length 0 with | some j => K ((a :: r).set j x) | none => False) = _
  rw [ixN_in (by decide) (by simp)]
  rfl
theorem st1 {x a b : PyData} {r : List PyData} {K : List PyData → Prop} : stQ (a :: b :: r) (.int 1) x K = K (a :: x :: r) := by
  show (match ixN (a :: b :: r).length 1 with | some j => K ((a :: b :: r).set j x) | none => False) = _
  rw [ixN_in (by decide) (by simp; omega)]
  rfl
theorem st2 {x a b c : PyData} {r : List PyData} {K : List PyData → Prop} : stQ (a :: b :: c :: r) (.int 2) x K = K (a :: b :: x :: r) := by
  show (match ixN (a :: b :: c :: r).length 2 with | some j => K ((a :: b :: c :: r).set j x) | none => False) = _
  rw [ixN_in (by decide) (by simp; omega)]
  rfl
theorem st3 {x a b c d : PyData} {r : List PyData} {K : List PyData → Prop} : stQ (a :: b :: c :: d :: r) (.int 3) x K = K (a :: b :: c :: x :: r) := by
  show (match ixN (a :: b :: c :: d :: r).length 3 with | some j => K ((a :: b :: c :: d :: r).set j x) | none => False) = _
  rw [ixN_in (by decide) (by simp; omega)]
  rfl
theorem st4 {x a b c d e : PyData} {r : List PyData} {K : List PyData → Prop} : stQ (a :: b :: c :: d :: e :: r) (.int 4) x K = K (a :: b :: c :: d :: x :: r) := by
  show (match ixN (a :: b :: c :: d :: e :: r).length 4 with | some j => K ((a :: b :: c :: d :: e :: r).set j x) | none => False) = _
  rw [ixN_in (by decide) (by simp; omega)]
  rfl
theorem st_in {x : PyData} {k : Int} {K : List PyData → Prop} (h0 : 0 ≤ k) (h1 : k < xs.length) (h : K (xs.set k.toNat x)) : stQ xs (.int k) x K := by
  show (match ixN xs.length k with | some j => K (xs.set j x) | none => False)
  rw [ixN_in h0 h1]
  exact h
end
theorem isi_non_int : isiB .none "int" = false := rfl
theorem isi_non_bool : isiB .none "bool" = false := rfl
theorem isi_non_str : isiB .none "str" = false := rfl
theorem isi_non_list : isiB .none "list" = false := rfl
theorem isi_non_tuple : isiB .none "tuple" = false := rfl
theorem isi_non_dict : isiB .none "dict" = false := rfl
theorem isi_bl_int {t : Bool} : isiB (.bool t) "int" = true := rfl
theorem isi_bl_bool {t : Bool} : isiB (.bool t) "bool" = true := rfl
theorem isi_bl_str {t : Bool} : isiB (.bool t) "str" = false := rfl
theorem isi_bl_list {t : Bool} : isiB (.bool t) "list" = false := rfl
theorem isi_bl_tuple {t : Bool} : isiB (.bool t) "tuple" = false := rfl
theorem isi_bl_dict {t : Bool} : isiB (.bool t) "dict" = false := rfl
theorem isi_int_int {a : Int} : isiB (.int a) "int" = true := rfl
theorem isi_int_bool {a : Int} : isiB (.int a) "bool" = false := rfl
theorem isi_int_str {a : Int} : isiB (.int a) "str" = false := rfl
theorem isi_int_list {a : Int} : isiB (.int a) "list" = false := rfl
theorem isi_int_tuple {a : Int} : isiB (.int a) "tuple" = false := rfl
theorem isi_int_dict {a : Int} : isiB (.int a) "dict" = false := rfl
theorem isi_str_int {x : Str} : isiB (.str x) "int" = false := rfl
theorem isi_str_bool {x : Str} : isiB (.str x) "bool" = false := rfl
theorem isi_str_str {x : Str} : isiB (.str x) "str" = true := rfl
theorem isi_str_list {x : Str} : isiB (.str x) "list" = false := rfl
theorem isi_str_tuple {x : Str} : isiB (.str x) "tuple" = false := rfl
theorem isi_str_dict {x : Str} : isiB (.str x) "dict" = false := rfl
theorem isi_lst_int {xs : List PyData} : isiB (.list xs) "int" = false := rfl
theorem isi_lst_bool {xs : List PyData} : isiB (.list xs) "bool" = false := rfl
theorem isi_lst_str {xs : List PyData} : isiB (.list xs) "str" = false := rfl
theorem isi_lst_list {xs : List PyData} : isiB (.list xs) "list" = true := rfl
theorem isi_lst_tuple {xs : List PyData} : isiB (.list xs) "tuple" = false := rfl
theorem isi_lst_dict {xs : List PyData} : isiB (.list xs) "dict" = false := rfl
theorem isi_tup_int {xs : List PyData} : isiB (.tuple xs) "int" = false := rfl
theorem isi_tup_bool {xs : List PyData} : isiB (.tuple xs) "bool" = false := rfl
theorem isi_tup_str {xs : List PyData} : isiB (.tuple xs) "str" = false := rfl
theorem isi_tup_list {xs : List PyData} : isiB (.tuple xs) "list" = false := rfl
theorem isi_tup_tuple {xs : List PyData} : isiB (.tuple xs) "tuple" = true := rfl
theorem isi_tup_dict {xs : List PyData} : isiB (.tuple xs) "dict" = false := rfl
theorem isi_dct_int : isiB (.dict []) "int" = false := rfl
theorem isi_dct_bool : isiB (.dict []) "bool" = false := rfl
theorem isi_dct_str : isiB (.dict []) "str" = false := rfl
theorem isi_dct_list : isiB (.dict []) "list" = false := rfl
theorem isi_dct_tuple : isiB (.dict []) "tuple" = false := rfl
theorem isi_dct_dict : isiB (.dict []) "dict" = true := rfl
end DL

namespace DL
variable {T : List (PySem.Addr × PySem.Str)} {Z : Zx T}
open PySem PySem.Spec PyProof.Rows L2
open Evl (Ex)
section
variable {X : Cx} {a b e : Expr} {es : List Expr} {we wa wb : DE} {was : DA} {pos p p1 p2 p3 p0 : Pos} {K : PySem.W.Frag} {m : Nat}
/-- x == [] of a list, x == () of a tuple -/
def oEmp (n : Bool) (x y : PyData) (P : PyData → Prop) : Prop := match x, y with
  | .list xs, .list [] => P (.bool (xs.isEmpty != n))
  | .tuple xs, .tuple [] => P (.bool (xs.isEmpty != n))
  | _, _ => False
theorem q_empL {n : Bool} {xs : List PyData} {P : PyData → Prop} : oEmp n (.list xs) (.list []) P = P (.bool (xs.isEmpty != n)) := rfl
theorem q_empT {n : Bool} {xs : List PyData} {P : PyData → Prop} : oEmp n (.tuple xs) (.tuple []) P = P (.bool (xs.isEmpty != n)) := rfl
variable {x : Str}
def oIsB (n t : Bool) (x : PyData) (P : PyData → Prop) : Prop := match x with
  | .bool b => P (.bool (decide (b = t) != n))
  | _ => False
theorem q_isB {n t b : Bool} {P : PyData → Prop} : oIsB n t (.bool b) P = P (.bool (decide (b = t) != n)) := rfl
theorem lift_isBn {t : Bool} {σ : L2.St} {H : Hp} {Q : VK} (h : liftE K Z (dUn (oIsB true t) wa) σ H Q) : tOp rNotB (liftE K Z wa) (tC (.bl t)) σ H Q := by
  obtain ⟨g, F, env, P, k, w, q⟩ := h
  refine ⟨g, F, env, _, k, w, fun d env1 v F1 H1 p e1 k1 r1 => ?_⟩
  unfold oIsB at p
  split at p
  · cases r1.inv_bool
    refine ⟨_, _, rfl, rfl, q _ env1 _ F1 H1 ?_ e1 k1 (.bl _)⟩
    simpa using p
  · exact p.elim
theorem tnotB {t : Bool} {j pos'} (ha : PE X a (liftE X.K Z wa)) : PT X (.Compare a [.IsNot] [.Constant (.bool t) j pos'] pos) (liftT X.K Z (dTest (dUn (oIsB true t) wa))) := PT.of (pt_cmpR op_notBl ha pe_bl (nomark _)) fun _ _ _ h => lift_test (fun _ _ _ h => lift_isBn h) h
/-- a new thing, its object known -/
theorem PE.known {t : TE} (h : PE X e t) : PE X e (fun σ H Q => t σ H fun v H1 => ∃ a u, v = .ref a ∧ H1 a = some u ∧ Mut (some u) ∧ ∀ od, Q v (upd H1 a (.frz od u))) := ⟨fun pins s σ H Q I hw => by
  refine thn (h.run pins s σ H _ I hw) fun v s1 ⟨x, H1, I1, r, a, u, ea, eu, mu, q⟩ => ?_
  obtain ⟨od, I2⟩ := I1.lock eu mu
  exact ⟨x, _, I2, r, q od⟩⟩
theorem ddict0 : PE X (.Dict [] [] pos) (liftE X.K Z (dC (.dict []))) := PE.of (PE.known pe_dnewK) fun σ H Q ⟨g, F, env, P, k, w, q⟩ => fun p hp => ⟨p, .dK [], rfl, upd_same, True.intro, fun od => by
  rw [upd_upd]
  exact q _ env _ (upd F p (.frz od (.dK []))) _ w (Ex.new (fnone k.fh hp)) (k.alloc hp) (.dct upd_same .nil)⟩
end

section
variable {prog : Program} {w : World} {A : Around} {E : Value → Shared → Prop} {s : Shared}
end
end DL

namespace DL
variable {T : List (PySem.Addr × PySem.Str)} {Z : Zx T}
open PySem PySem.Spec PyProof.Rows L2
open Evl (Ex)
section
variable {X : Cx} {a b e : Expr} {es : List Expr} {we wa wb : DE} {was : DA} {pos p p1 p2 p3 p0 : Pos} {K : PySem.W.Frag} {m : Nat}
def oRevA (x : PyData) (P : PyData → Prop) : Prop := match x with
  | .list ds => P (.list ds.reverse)
  | .tuple ds => P (.tuple ds.reverse)
  | _ => False
theorem q_revL {ds : List PyData} {P : PyData → Prop} : oRevA (.list ds) P = P (.list ds.reverse) := rfl
theorem q_revT {ds : List PyData} {P : PyData → Prop} : oRevA (.tuple ds) P = P (.tuple ds.reverse) := rfl
end
end DL

namespace DL
variable {T : List (PySem.Addr × PySem.Str)} {Z : Zx T}
open PySem PySem.Spec PyProof.Rows L2
open Evl (Ex)
section
variable {X : Cx} {a b e : Expr} {es : List Expr} {we wa wb : DE} {was : DA} {pos p p1 p2 p3 p0 : Pos} {K : PySem.W.Frag} {m : Nat}
/-- [e] * n, a new cell -/
def repQ (x y : PyData) (K : List PyData → Prop) : Prop := match y with
  | .int k => (-1000000 ≤ k ∧ k ≤ 100000) ∧ K (List.replicate k.toNat x)
  | _ => False
theorem q_rep {x : PyData} {k : Int} {K : List PyData → Prop} : repQ x (.int k) K = ((-1000000 ≤ k ∧ k ≤ 100000) ∧ K (List.replicate k.toNat x)) := rfl
abbrev dRep (wa wb : DE) (env : List SD) (P : SD → List SD → Prop) : Prop := wa env fun x env1 => wb env1 fun y env2 => repQ x y fun xs => P (.cel false xs) env2
theorem rep_flat {α : Type} (x : α) : ∀ n : Nat, (List.replicate n [x]).flatten = List.replicate n x
  | 0 => rfl
  | n + 1 => by rw [List.replicate_succ, List.flatten_cons, rep_flat x n, List.replicate_succ]; rfl
theorem DRs.rep {F : Hp} {v : V} {d : PyData} (r : DR K F v d) : ∀ n : Nat, DRs K F (List.replicate n v) (List.replicate n d)
  | 0 => .nil
  | n + 1 => by rw [List.replicate_succ, List.replicate_succ]; exact .cons r (DRs.rep r n)
theorem drep {lp : Pos} (ha : PE X a (liftE X.K Z wa)) (hb : PE X b (liftE X.K Z wb)) (hs : starEach [a] X.env = (false, eval a X.env) :: starEach [] X.env := by rfl) : PE X (.BinOp (.List [a] lp) .Mult b pos) (liftX X.K Z (dRep wa wb)) :=
  PE.of (pe_op op_rep (pe_lst (pa_cons ha pa_nil hs)) hb) fun σ H Q ⟨g, F, env, P, k, w, q⟩ =>
    ⟨g, F, env, _, k, w, fun x env1 v F1 H1 p1 e1 k1 r1 => ⟨by show 1 ≤ sizeLine; decide, fun D hD => by
      obtain ⟨k2, rc⟩ := k1.newCell hD (DRs.one r1)
      obtain ⟨D', vs, eD, hF, hH, rr, h0, hpr, nw⟩ := rc
      cases eD
      refine ⟨_, F1, env1, _, k2.hide hF hH nw hpr, p1, fun y env2 v2 F2 H2 p2 e2 k3 r2 => ?_⟩
      obtain ⟨n, rfl, ⟨h1, h2⟩, p2⟩ : ∃ n, y = .int n ∧ (-1000000 ≤ n ∧ n ≤ 100000) ∧ P (.cel false (List.replicate n.toNat x)) env2 := by
        cases y <;> first | exact ⟨_, rfl, p2⟩ | exact p2.elim
      cases r2.inv_int
      obtain ⟨k4, z1, z2, z3⟩ := Ok.bare hpr k3
      have hvs : vs = [v] := by
        rw [upd_same] at hH
        cases hH
        rfl
      subst hvs
      refine ⟨D, n, [v], rfl, rfl, z2, by omega, by omega, ?_, fun p hp => ?_⟩
      · show 1 * n.toNat ≤ sizeLine
        exact Evl.sz_of (by omega)
      · rw [rep_flat]
        obtain ⟨k5, r5⟩ := k4.newCell hp (DRs.rep (r1.mono e2) n.toNat)
        exact q _ env2 _ _ _ p2 (e1.trans e2) k5 r5⟩⟩
end
theorem Dn.imp {P : Program} {w : World} {K : PySem.W.Frag} {mg : Str → Option Value} {base : Heap} {x : Str} {k : Nat} {ps : List Str} {S S' : DSp} (D : Dn P w K mg base T x k ps S) (h : ∀ as Q, S' as Q → S as Q) : Dn P w K mg base T x k ps S' :=
  ⟨let ⟨fd, F, b⟩ := D.ex; ⟨fd, F.imp h, b⟩, D.glo, D.kp⟩
theorem FnG.never {P : Program} {w : World} {K : PySem.W.Frag} {mg : Str → Option Value} {base : Heap} {k : Nat} {f : Addr} {fd : FuncData} {ps : List Str} {S : DSp} (h : ∀ as Q, ¬ S as Q) : FnG P w K mg base T k f fd ps S :=
  ⟨fun as Q q => absurd q (h as Q), fun _ _ _ _ _ _ _ _ _ _ _ _ _ ⟨_, as, _, _, q, _⟩ => absurd q (h as _)⟩
end DL

namespace DL
variable {T : List (PySem.Addr × PySem.Str)} {Z : Zx T}
open PySem PySem.Spec PyProof.Rows L2
open Evl (Ex)
section
variable {X : Cx} {a b e : Expr} {wa wb : DE} {pos : Pos} {K : PySem.W.Frag}
abbrev oFd : D2 := oIc (fun _ j => j ≠ 0 ∧ Sz j) fun i j => .int (i.fdiv j)
theorem q_fd {i j : Int} {P : PyData → Prop} : oFd (.int i) (.int j) P = ((j ≠ 0 ∧ Sz j) ∧ P (.int (i.fdiv j))) := rfl
end
end DL

namespace DL
variable {T : List (PySem.Addr × PySem.Str)} {Z : Zx T}
open PySem PySem.Spec PyProof.Rows L2
open Evl (Ex)
section
variable {X : Cx} {a b e : Expr} {es : List Expr} {pos p : Pos} {was : DA} {wa wb we : DE} {K : PySem.W.Frag}
def max3 (i j k : Int) : Int := max (max i j) k
def min3 (i j k : Int) : Int := min (min i j) k
def nMax3 (xs : List PyData) (P : PyData → Prop) : Prop := match xs with
  | [.int i, .int j, .int k] => P (.int (max3 i j k))
  | _ => False
def nMin3 (xs : List PyData) (P : PyData → Prop) : Prop := match xs with
  | [.int i, .int j, .int k] => P (.int (min3 i j k))
  | _ => False
theorem q_max3 {i j k : Int} {P : PyData → Prop} : nMax3 [.int i, .int j, .int k] P = P (.int (max3 i j k)) := rfl
theorem q_min3 {i j k : Int} {P : PyData → Prop} : nMin3 [.int i, .int j, .int k] P = P (.int (min3 i j k)) := rfl
/-- the figures of a whole number -/
@[irreducible] def shInt (i : Int) : Str := toString i
def nStr (xs : List PyData) (P : PyData → Prop) : Prop := match xs with
  | [.int i] => i.natAbs < 10 ^ 250 ∧ P (.str (shInt i))
  | _ => False
theorem q_str {i : Int} {P : PyData → Prop} : nStr [.int i] P = (i.natAbs < 10 ^ 250 ∧ P (.str (shInt i))) := rfl
def catQ (xs : List PyData) (y : PyData) (K : List PyData → Prop) : Prop := match y with
  | .list ys => xs.length + ys.length ≤ 100000 ∧ K (xs ++ ys)
  | _ => False
theorem q_cat {xs ys : List PyData} {K : List PyData → Prop} : catQ xs (.list ys) K = (xs.length + ys.length ≤ 100000 ∧ K (xs ++ ys)) := rfl
/-- a list, as a row of items -/
def catN (x y : PyData) (K : List PyData → Prop) : Prop := match x with
  | .list xs => catQ xs y K
  | _ => False
theorem q_catN {xs ys : List PyData} {K : List PyData → Prop} : catN (.list xs) (.list ys) K = (xs.length + ys.length ≤ 100000 ∧ K (xs ++ ys)) := rfl
def scalQ (d : PyData) (p : Prop) : Prop := match d with
  | .none => p
  | .bool _ => p
  | .int _ => p
  | .str _ => p
  | _ => False
theorem q_scalN {p : Prop} : scalQ .none p = p := rfl
theorem q_scalB {b : Bool} {p : Prop} : scalQ (.bool b) p = p := rfl
theorem q_scalI {i : Int} {p : Prop} : scalQ (.int i) p = p := rfl
theorem q_scalS {x : Str} {p : Prop} : scalQ (.str x) p = p := rfl
theorem scalQ_inv {d : PyData} {p : Prop} (h : scalQ d p) : p ∧ ∀ {F F' : Hp} {v : V}, DR K F v d → DR K F' v d := by
  cases d with
  | none => exact ⟨h, fun r => by cases r; exact .non⟩
  | bool b => exact ⟨h, fun r => by cases r; exact .bl b⟩
  | int i => exact ⟨h, fun r => by cases r; exact .int i⟩
  | str x => exact ⟨h, fun r => by cases r; exact .str x⟩
  | list _ => exact h.elim
  | tuple _ => exact h.elim
  | dict _ => exact h.elim
def frz1 : SD → SD
  | .cel _ xs => .dat (.list xs)
  | .dic _ => .un
  | s => s
def frz (env : List SD) : List SD := env.map frz1
theorem Ok.later {g : Gx Z} {F : Hp} {env : List SD} {σ : L2.St} {H H' : Hp} (k : Ok K g F env σ H) (e : Frm T H (fun _ => True) H') (ef : Ex F H') : Ok K g F env σ H' where
  len := k.len
  fh := ef
  dat := k.dat
  cel := fun i q xs h => by
    obtain ⟨a, vs, h1, h2, h3, h4, h5⟩ := k.cel i q xs h
    exact ⟨a, vs, h1, h2, (e.stay _ _ h3 trivial).lst, h4, h5⟩
  sep := k.sep
  pin := k.pin
  frame := k.frame.trans e fun _ _ _ _ => trivial
  newF := k.newF
  oldF := k.oldF
  prot := fun a u h => by
    obtain ⟨z1, z2, z3⟩ := k.prot a u h
    exact ⟨(e.stay _ _ z1 trivial).same (g.pl a u h), z2, z3⟩
  dic := k.dic.keep (Ex.refl F) (fun _ _ _ z => z) fun a xs h n => ⟨n, (e.stay _ _ h trivial).ext.trans h.symm⟩
theorem PE.anyZ {ι : Type} {t : ι → TE} (h : ∀ i, PE X e (t i)) : PE X e (fun σ H Q => ∃ i, t i σ H Q) := ⟨fun pins s σ H Q I ⟨i, w⟩ => (h i).run pins s σ H Q I w⟩
theorem PT.anyZ {ι : Type} {t : ι → TT} (h : ∀ i, PT X e (t i)) : PT X e (fun σ H Q => ∃ i, t i σ H Q) := ⟨fun pins s σ H Q I ⟨i, w⟩ => (h i).run pins s σ H Q I w⟩
/-- 0, 1, .. beside the items -/
def enumD : Nat → List PyData → List PyData
  | _, [] => []
  | n, x :: xs => .tuple [.int (n : Nat), x] :: enumD (n + 1) xs
def enumQ (ds : List PyData) (K : List PyData → Prop) : Prop := match ds with
  | [.list xs] => At (enumD 0 xs) K
  | [.tuple xs] => At (enumD 0 xs) K
  | _ => False
theorem q_enumL {xs : List PyData} {K : List PyData → Prop} : enumQ [.list xs] K = K (enumD 0 xs) := At.eq
theorem q_enumT {xs : List PyData} {K : List PyData → Prop} : enumQ [.tuple xs] K = K (enumD 0 xs) := At.eq
end
end DL

namespace DL
variable {T : List (PySem.Addr × PySem.Str)} {Z : Zx T}
open PySem PySem.Spec PyProof.Rows L2
open Evl (Ex)
section
variable {X : Cx} {a b e : Expr} {es : List Expr} {pos p : Pos} {was : DA} {wa wb we : DE} {K : PySem.W.Frag}
theorem maxOf_int (x : Int) : ∀ xs : List Int, PySem.W.maxOf x xs ∈ x :: xs ∧ ∀ a ∈ x :: xs, a ≤ PySem.W.maxOf x xs := by
  intro xs
  unfold PySem.W.maxOf
  induction xs generalizing x with
  | nil => exact ⟨by simp, fun a h => by simp at h; subst h; exact Int.le_refl _⟩
  | cons y ys ih =>
    rw [List.foldl_cons]
    by_cases h : x < y
    · rw [if_pos (show PySem.W.DatumOrd.lt x y = true from decide_eq_true h)]
      obtain ⟨h1, h2⟩ := ih y
      refine ⟨List.mem_cons_of_mem _ h1, fun a ha => ?_⟩
      rcases List.mem_cons.mp ha with rfl | ha
      · have := h2 y (by simp)
        omega
      · exact h2 a ha
    · rw [if_neg (show ¬ PySem.W.DatumOrd.lt x y = true from fun z => h (of_decide_eq_true z))]
      obtain ⟨h1, h2⟩ := ih x
      refine ⟨?_, fun a ha => ?_⟩
      · rcases List.mem_cons.mp h1 with z | z
        · rw [z]; simp
        · exact List.mem_cons_of_mem _ (List.mem_cons_of_mem _ z)
      · rcases List.mem_cons.mp ha with rfl | ha
        · exact h2 _ (by simp)
        · rcases List.mem_cons.mp ha with rfl | ha
          · have := h2 x (by simp)
            omega
          · exact h2 a (List.mem_cons_of_mem _ ha)
theorem minOf_int (x : Int) : ∀ xs : List Int, PySem.W.minOf x xs ∈ x :: xs ∧ ∀ a ∈ x :: xs, PySem.W.minOf x xs ≤ a := by
  intro xs
  unfold PySem.W.minOf
  induction xs generalizing x with
  | nil => exact ⟨by simp, fun a h => by simp at h; subst h; exact Int.le_refl _⟩
  | cons y ys ih =>
    rw [List.foldl_cons]
    by_cases h : y < x
    · rw [if_pos (show PySem.W.DatumOrd.lt y x = true from decide_eq_true h)]
      obtain ⟨h1, h2⟩ := ih y
      refine ⟨List.mem_cons_of_mem _ h1, fun a ha => ?_⟩
      rcases List.mem_cons.mp ha with rfl | ha
      · have := h2 y (by simp)
        omega
      · exact h2 a ha
    · rw [if_neg (show ¬ PySem.W.DatumOrd.lt y x = true from fun z => h (of_decide_eq_true z))]
      obtain ⟨h1, h2⟩ := ih x
      refine ⟨?_, fun a ha => ?_⟩
      · rcases List.mem_cons.mp h1 with z | z
        · rw [z]; simp
        · exact List.mem_cons_of_mem _ (List.mem_cons_of_mem _ z)
      · rcases List.mem_cons.mp ha with rfl | ha
        · exact h2 _ (by simp)
        · rcases List.mem_cons.mp ha with rfl | ha
          · have := h2 x (by simp)
            omega
          · exact h2 a (List.mem_cons_of_mem _ ha)
theorem readsAll_ints {h : Heap} : ∀ {its : List Value} {ns : List Int}, Vals (ns.map V.int) its → ∃ as, PySem.ReadsAll h its (ns.map PySem.W.Datum.toD) as
  | its, [], r => by cases r; exact ⟨_, .nil⟩
  | its, n :: ns, r => by
    cases r with
    | cons r1 r2 =>
      obtain ⟨t, rfl⟩ := r1
      obtain ⟨as, q⟩ := readsAll_ints r2
      exact ⟨_, .cons (.int _ _) q⟩
def rMaxD (K : PySem.W.Frag) : List V → Hp → VK → Prop := fun vs H Q => ∃ (a : Addr) (ns : List Int), vs = [.ref a] ∧ (SqL K H a (ns.map V.int) ∨ SqT K H a (ns.map V.int)) ∧ 0 < ns.length ∧ ∀ m, m ∈ ns → (∀ a ∈ ns, a ≤ m) → Q (.int m) H
def rMinD (K : PySem.W.Frag) : List V → Hp → VK → Prop := fun vs H Q => ∃ (a : Addr) (ns : List Int), vs = [.ref a] ∧ (SqL K H a (ns.map V.int) ∨ SqT K H a (ns.map V.int)) ∧ 0 < ns.length ∧ ∀ m, m ∈ ns → (∀ a ∈ ns, m ≤ a) → Q (.int m) H
theorem call_maxD (hc : X.calm = true) (hu : X.A.units + 64 < cLine) : CallR X (.builtin "max") (rMaxD X.K) := by
  intro pins s σ H xs us Q I r h
  obtain ⟨a, ns, rfl, h | h, hn, q⟩ := h
  · exact cr_max hc pins s σ H _ us Q I r ⟨a, ns, rfl, h, hn, q⟩
  · cases r.ref1
    obtain ⟨its, rv, ht, hz⟩ := I.tuple h
    cases ns with
    | nil => simp at hn
    | cons n ns =>
      have ht2 : s.heap.IsTuple a its.toArray := ht
      refine PySem.W.max_tuple_datum (I.ok.hd hc) ht2 (x := n) (xs := ns) (readsAll_ints (ns := n :: ns) rv) (by show X.A.units + 1 + 0 < cLine; omega) fun i v h' tk hv hh hk => ?_
      obtain ⟨as, hh⟩ := hh
      have hh : PySem.Reads h' v (.int (PySem.W.maxOf n ns)) as := hh
      cases hh
      obtain ⟨h1, h2⟩ := maxOf_int n ns
      exact ⟨.int _, H, I.kept hk, ⟨_, rfl⟩, q _ h1 h2⟩
theorem call_minD (hc : X.calm = true) (hu : X.A.units + 64 < cLine) : CallR X (.builtin "min") (rMinD X.K) := by
  intro pins s σ H xs us Q I r h
  obtain ⟨a, ns, rfl, h | h, hn, q⟩ := h
  · exact cr_min hc pins s σ H _ us Q I r ⟨a, ns, rfl, h, hn, q⟩
  · cases r.ref1
    obtain ⟨its, rv, ht, hz⟩ := I.tuple h
    cases ns with
    | nil => simp at hn
    | cons n ns =>
      have ht2 : s.heap.IsTuple a its.toArray := ht
      refine PySem.W.min_tuple_datum (I.ok.hd hc) ht2 (x := n) (xs := ns) (readsAll_ints (ns := n :: ns) rv) (by show X.A.units + 1 + 0 < cLine; omega) fun i v h' tk hv hh hk => ?_
      obtain ⟨as, hh⟩ := hh
      have hh : PySem.Reads h' v (.int (PySem.W.minOf n ns)) as := hh
      cases hh
      obtain ⟨h1, h2⟩ := minOf_int n ns
      exact ⟨.int _, H, I.kept hk, ⟨_, rfl⟩, q _ h1 h2⟩
/-- what max tells of whole numbers -/
def maxQ (o : Option (List Int)) (P : PyData → Prop) : Prop := match o with
  | some ns => 0 < ns.length ∧ ∀ m, m ∈ ns → (∀ a ∈ ns, a ≤ m) → P (.int m)
  | none => False
def minQ (o : Option (List Int)) (P : PyData → Prop) : Prop := match o with
  | some ns => 0 < ns.length ∧ ∀ m, m ∈ ns → (∀ a ∈ ns, m ≤ a) → P (.int m)
  | none => False
def nMaxL (xs : List PyData) (P : PyData → Prop) : Prop := match xs with
  | [.list ds] => maxQ (intsD ds) P
  | [.tuple ds] => maxQ (intsD ds) P
  | _ => False
def nMinL (xs : List PyData) (P : PyData → Prop) : Prop := match xs with
  | [.list ds] => minQ (intsD ds) P
  | [.tuple ds] => minQ (intsD ds) P
  | _ => False
theorem dmaxL (hm : X.mg "max" = none) (hc : X.calm = true) (hu : X.A.units + 64 < cLine) (ha : PA X (e :: es) (liftA X.K Z was)) (hg : Gl X "max" := by rfl)
    (he : starEach (e :: es) X.env = (false, eval e X.env) :: starEach es X.env := by rfl) (hpl : (backTo pos (starEach es X.env)).any (·.1) = false := by rfl) : PE X (.Call (.Name "max" p) (e :: es) [] pos) (liftE X.K Z (dB nMaxL was)) :=
  dcb (call_maxD hc hu) (fun _ _ g F env σ H vs ds P Q k r f q => by
    unfold nMaxL at f
    split at f
    · obtain ⟨v, rfl, r0⟩ := r.inv1
      obtain ⟨a, us, rfl, h1, h2⟩ := r0.inv_lst
      unfold maxQ at f
      split at f
      · rename_i ns e
        cases ints_rel h2 e
        exact ⟨a, ns, rfl, .inl (h1.mono k.fh).sq, f.1, fun m z1 z2 => q _ _ F H (f.2 m z1 z2) (Ex.refl F) k (.int _)⟩
      · exact f.elim
    · obtain ⟨v, rfl, r0⟩ := r.inv1
      obtain ⟨a, us, rfl, h1, h2⟩ := r0.inv_tup
      unfold maxQ at f
      split at f
      · rename_i ns e
        cases ints_rel h2 e
        exact ⟨a, ns, rfl, .inr (Evl.ex_t k.fh h1), f.1, fun m z1 z2 => q _ _ F H (f.2 m z1 z2) (Ex.refl F) k (.int _)⟩
      · exact f.elim
    · exact f.elim) hm (by decide +kernel) ha hg (by decide) (by decide) he hpl
theorem dminL (hm : X.mg "min" = none) (hc : X.calm = true) (hu : X.A.units + 64 < cLine) (ha : PA X (e :: es) (liftA X.K Z was)) (hg : Gl X "min" := by rfl)
    (he : starEach (e :: es) X.env = (false, eval e X.env) :: starEach es X.env := by rfl) (hpl : (backTo pos (starEach es X.env)).any (·.1) = false := by rfl) : PE X (.Call (.Name "min" p) (e :: es) [] pos) (liftE X.K Z (dB nMinL was)) :=
  dcb (call_minD hc hu) (fun _ _ g F env σ H vs ds P Q k r f q => by
    unfold nMinL at f
    split at f
    · obtain ⟨v, rfl, r0⟩ := r.inv1
      obtain ⟨a, us, rfl, h1, h2⟩ := r0.inv_lst
      unfold minQ at f
      split at f
      · rename_i ns e
        cases ints_rel h2 e
        exact ⟨a, ns, rfl, .inl (h1.mono k.fh).sq, f.1, fun m z1 z2 => q _ _ F H (f.2 m z1 z2) (Ex.refl F) k (.int _)⟩
      · exact f.elim
    · obtain ⟨v, rfl, r0⟩ := r.inv1
      obtain ⟨a, us, rfl, h1, h2⟩ := r0.inv_tup
      unfold minQ at f
      split at f
      · rename_i ns e
        cases ints_rel h2 e
        exact ⟨a, ns, rfl, .inr (Evl.ex_t k.fh h1), f.1, fun m z1 z2 => q _ _ F H (f.2 m z1 z2) (Ex.refl F) k (.int _)⟩
      · exact f.elim
    · exact f.elim) hm (by decide +kernel) ha hg (by decide) (by decide) he hpl
@[irreducible] def memD (x : PyData) (ds : List PyData) : Bool := ds.any fun z => PyData.eqv z x
/-- a text within a text -/
@[irreducible] def inStr (a z : Str) : Bool := !(Builtin.Str.occurrences z a 0 z.length 1).isEmpty
/-- may be looked for -/
def shp (x : PyData) (ds : List PyData) : Prop := SeqAt.shaped x = true ∧ SeqAt.shaped (.list ds) = true
def oMem (n : Bool) (x y : PyData) (P : PyData → Prop) : Prop := match y with
  | .list ds => shp x ds ∧ P (.bool (memD x ds != n))
  | .tuple ds => shp x ds ∧ P (.bool (memD x ds != n))
  | .str z => (match x with
    | .str a => P (.bool (inStr a z != n))
    | _ => False)
  | _ => False
def oIn (x y : PyData) (P : PyData → Prop) : Prop := oMem false x y P
def oNin (x y : PyData) (P : PyData → Prop) : Prop := oMem true x y P
theorem q_inL {x : PyData} {ds : List PyData} {P : PyData → Prop} : oIn x (.list ds) P = (shp x ds ∧ P (.bool (memD x ds != false))) := rfl
theorem q_inT {x : PyData} {ds : List PyData} {P : PyData → Prop} : oIn x (.tuple ds) P = (shp x ds ∧ P (.bool (memD x ds != false))) := rfl
theorem q_inS {a z : Str} {P : PyData → Prop} : oIn (.str a) (.str z) P = P (.bool (inStr a z != false)) := rfl
theorem q_ninL {x : PyData} {ds : List PyData} {P : PyData → Prop} : oNin x (.list ds) P = (shp x ds ∧ P (.bool (memD x ds != true))) := rfl
theorem q_ninT {x : PyData} {ds : List PyData} {P : PyData → Prop} : oNin x (.tuple ds) P = (shp x ds ∧ P (.bool (memD x ds != true))) := rfl
theorem q_ninS {a z : Str} {P : PyData → Prop} : oNin (.str a) (.str z) P = P (.bool (inStr a z != true)) := rfl
theorem _root_.L2.Room.u65 {k : Nat} {A : Around} (r : Room k A) : A.units + 65 < cLine := by have := r.un; omega
end
end DL

namespace DL
variable {T : List (PySem.Addr × PySem.Str)} {Z : Zx T}
open PySem PySem.Spec PyProof.Rows L2
structure Sm (b k : Nat) (d : PyData) : Prop where
  rp : rp d = true
  bulk : d.bulk ≤ b
  depth : d.depth ≤ k
theorem Sm.mono {b k b' k' : Nat} {d : PyData} (h : Sm b k d) (hb : b ≤ b' := by omega) (hk : k ≤ k' := by omega) : Sm b' k' d := ⟨h.rp, Nat.le_trans h.bulk hb, Nat.le_trans h.depth hk⟩
theorem sm_all {b k : Nat} : ∀ {xs : List PyData}, (∀ x ∈ xs, Sm b k x) → rpAll xs = true ∧ PyData.bulkAll xs ≤ xs.length * (b + 1) ∧ PyData.depthAll xs ≤ k
  | [], _ => ⟨by simp [rpAll], by simp [PyData.bulkAll], by simp [PyData.depthAll]⟩
  | x :: xs, h => by
    obtain ⟨h1, h2, h3⟩ := sm_all (xs := xs) fun y hy => h y (List.mem_cons_of_mem _ hy)
    have hx := h x List.mem_cons_self
    refine ⟨?_, ?_, ?_⟩
    · rw [rpAll, hx.rp, h1]; rfl
    · rw [PyData.bulkAll, List.length_cons, Nat.add_mul]
      have := hx.bulk
      omega
    · rw [PyData.depthAll]
      have := hx.depth
      omega
theorem Sm.tup {n b k : Nat} {xs : List PyData} (hl : xs.length ≤ n) (h : ∀ x ∈ xs, Sm b k x) : Sm (n * (b + 1)) (k + 1) (.tuple xs) := by
  obtain ⟨h1, h2, h3⟩ := sm_all h
  refine ⟨by simpa only [DL.rp] using h1, ?_, ?_⟩
  · rw [PyData.bulk]
    exact Nat.le_trans h2 (Nat.mul_le_mul_right _ hl)
  · rw [PyData.depth]
    omega
theorem Sm.lst {n b k : Nat} {xs : List PyData} (hl : xs.length ≤ n) (h : ∀ x ∈ xs, Sm b k x) : Sm (n * (b + 1)) (k + 1) (.list xs) := by
  obtain ⟨h1, h2, h3⟩ := sm_all h
  refine ⟨by simpa only [DL.rp] using h1, ?_, ?_⟩
  · rw [PyData.bulk]
    exact Nat.le_trans h2 (Nat.mul_le_mul_right _ hl)
  · rw [PyData.depth]
    omega
theorem Sm.int {i : Int} (h : i.natAbs < 10 ^ 250) (b k : Nat) : Sm b k (.int i) := ⟨by simpa only [DL.rp, decide_eq_true_eq] using h, by rw [PyData.bulk]; omega, by rw [PyData.depth]; omega⟩
theorem Sm.bool {t : Bool} (b k : Nat) : Sm b k (.bool t) := ⟨rfl, by rw [PyData.bulk]; omega, by rw [PyData.depth]; omega⟩
theorem Sm.none (b k : Nat) : Sm b k .none := ⟨rfl, by rw [PyData.bulk]; omega, by rw [PyData.depth]; omega⟩
end DL

namespace DL
variable {T : List (PySem.Addr × PySem.Str)} {Z : Zx T}
open PySem PySem.Spec PyProof.Rows L2
open Evl (Ex)

section
variable {K : PySem.W.Frag} {F H : Hp} {b : Addr} {us us' : List V}
end
section
variable {X : Cx} {e b b2 : Expr} {we wb wb2 : DE} {wx : DX} {m : Nat} {pos : Pos}
end
section
variable {K : PySem.W.Frag} {F H : Hp} {vs : List V} {as : List SD}
def atB : PyData → Bool
  | .none => true
  | .bool _ => true
  | .int _ => true
  | .str _ => true
  | _ => false
def atoms : List SD → Bool
  | [] => true
  | .un :: r => atoms r
  | .dat d :: r => atB d && atoms r
  | .cel _ xs :: r => xs.all atB && atoms r
  | .dic _ :: _ => false
theorem atoms_get : ∀ {env : List SD} {j : Nat} {s : SD}, atoms env = true → env[j]? = some s → match s with | .un => True | .dat d => atB d = true | .cel _ xs => xs.all atB = true | .dic _ => False
  | [], j, s, _, e => by simp at e
  | .un :: r, 0, s, h, e => by simp at e; subst e; trivial
  | .dat d :: r, 0, s, h, e => by simp only [atoms, Bool.and_eq_true] at h; simp at e; subst e; exact h.1
  | .cel p xs :: r, 0, s, h, e => by simp only [atoms, Bool.and_eq_true] at h; simp at e; subst e; exact h.1
  | .dic _ :: r, _, s, h, e => by simp [atoms] at h
  | .un :: r, j + 1, s, h, e => atoms_get (env := r) (j := j) h (by simpa using e)
  | .dat d :: r, j + 1, s, h, e => by simp only [atoms, Bool.and_eq_true] at h; exact atoms_get (env := r) (j := j) h.2 (by simpa using e)
  | .cel p xs :: r, j + 1, s, h, e => by simp only [atoms, Bool.and_eq_true] at h; exact atoms_get (env := r) (j := j) h.2 (by simpa using e)
theorem at_any {F' : Hp} {v : V} {d : PyData} (h : atB d = true) (r : DR K F v d) : DR K F' v d := by
  cases r with
  | non => exact .non
  | bl b => exact .bl b
  | int i => exact .int i
  | str x => exact .str x
  | lst _ _ => cases h
  | tup _ _ => cases h
  | dct _ _ => cases h
  | row _ _ => cases h
  | exc _ _ => cases h
  | opq _ _ => cases h
theorem ats_any {F' : Hp} : ∀ {vs : List V} {ds : List PyData}, ds.all atB = true → DRs K F vs ds → DRs K F' vs ds
  | _, _, _, .nil => .nil
  | _, _, h, .cons x y => by
    simp only [List.all_cons, Bool.and_eq_true] at h
    exact .cons (at_any h.1 x) (ats_any h.2 y)
abbrev noH : Hp := fun _ => none
theorem ArgsOk.bare (ha : ArgsOk T K F H vs as) (h : atoms as = true) : ArgsOk T K noH H vs as where
  len := ha.len
  fh := fun a o e => by cases e
  dat := fun i d e => by
    obtain ⟨v, h1, h2⟩ := ha.dat i d e
    exact ⟨v, h1, at_any (atoms_get h e) h2⟩
  cel := fun i p xs e => by
    obtain ⟨rfl, a, us, h1, h2, h3, h4⟩ := ha.cel i p xs e
    exact ⟨rfl, a, us, h1, rfl, h3, ats_any (atoms_get h e) h4⟩
  sep := ha.sep
  nod := ha.nod
  tab := ha.tab
  nt := fun _ _ e => by cases e
/-- both -/
def joinH (F F' : Hp) : Hp := fun a => match F' a with
  | some o => some o
  | none => F a
theorem PostOk.back {F' H' : Hp} {as' : List SD} {v : V} {r : SD} (ha : ArgsOk T K F H vs as) (p : PostOk T K noH H vs as F' H' as' v r) : PostOk T K F H vs as (joinH F F') H' as' v r := by
  have e1 : Ex F (joinH F F') := fun a o e => by
    unfold joinH
    split
    · rename_i u z
      rcases p.newF a u z with y | y
      · cases y
      · have := ha.fh a o e
        rw [y] at this
        cases this
    · exact e
  have e2 : Ex F' (joinH F F') := fun a o e => by
    unfold joinH
    rw [e]
  have nn : ∀ {a : Addr}, F a = none → F' a = none → joinH F F' a = none := fun {a} h1 h2 => by
    unfold joinH
    rw [h2]
    exact h1
  have fr : ∀ (a : Addr) (o : HO), F a = some o → F' a = none → H' a = some o := fun a o e n => (p.frame.stay a o (ha.fh a o e) fun i q xs z y => by
    obtain ⟨_, b, us, y1, y2, _⟩ := ha.cel i q xs z
    rw [y] at y1
    cases y1
    rw [e] at y2
    cases y2).same fun ps z => ha.nt a ps (by rw [e, z])
  refine ⟨e1, fun a ps e => ?_, fun a o e => ?_, fun a o e => ?_, p.frame, fun i q xs a z y => ?_, ?_⟩
  · unfold joinH at e
    split at e
    · rename_i u z
      cases e
      exact p.nt a _ z
    · exact ha.nt a ps e
  · unfold joinH at e
    split at e
    · rename_i u z
      cases e
      exact p.fh a _ z
    · exact fr a o e ‹_›
  · unfold joinH at e
    split at e
    · rename_i u z
      exact .inr ((p.newF a u z).elim (fun w => by cases w) id)
    · exact .inl e
  · obtain ⟨ys, us, c1, c2, c3, c4⟩ := p.cel i q xs a z y
    obtain ⟨_, b, us0, y1, y2, _⟩ := ha.cel i q xs z
    rw [y] at y1
    cases y1
    exact ⟨ys, us, c1, nn y2 c2, c3, c4.mono e2⟩
  · have := p.res
    cases r with
    | un => exact this
    | dat d => exact DR.mono e2 this
    | dic _ => exact this.elim
    | cel b xs =>
      obtain ⟨a, us, h1, h2, h3, h4, h5⟩ := this
      refine ⟨a, us, h1, nn ?_ h2, h3, h4.mono e2, h5⟩
      cases z : F a with
      | none => rfl
      | some o =>
        have := ha.fh a o z
        rw [h5] at this
        cases this
end
section
variable {P : Program} {w : World} {K : PySem.W.Frag} {mg : Str → Option Value} {base : Heap}
end
end DL

namespace DL
variable {T : List (PySem.Addr × PySem.Str)} {Z : Zx T}
open PySem PySem.Spec PyProof.Rows L2
open Evl (Ex)
section
variable {X : Cx} {e : Expr} {wx : DX} {m : Nat} {pos : Pos}
def exQ (xs ys : List PyData) (K : List PyData → Prop) : Prop := xs.length + ys.length ≤ 100000 ∧ K (xs ++ ys)
theorem q_ex {xs ys : List PyData} {K : List PyData → Prop} : exQ xs ys K = (xs.length + ys.length ≤ 100000 ∧ K (xs ++ ys)) := rfl
abbrev dExt (i : Nat) (wx : DX) (E : DEnds) (env : List SD) : Prop := match env[i]? with
  | some (.cel _ _) => wx env fun r env1 => match r, env1[i]? with
    | .cel _ ys, some (.cel p xs) => exQ xs ys fun xs' => E.nx (env1.set i (.cel p xs'))
    | _, _ => False
  | _ => False
theorem sext (i : Nat) {x : Str} {p0 apos cpos : Pos} (he : PE X e (liftX X.K Z wx)) (hN : X.N[i]? = some x := by rfl) (hv : Vis X.env.scope x := by first | exact Or.inl rfl | exact Or.inr (Or.inl rfl) | exact Or.inr (Or.inr rfl)) (hd : (x == ("__debug__" : Str)) = false := by decide)
    (hcd : (x == ("__classdict__" : Str)) = false := by decide)
    (h1 : attributeBase (.Name x p0) "extend" X.env (eval (.Name x p0) X.env) = eval (.Name x p0) X.env := by rfl)
    (h2 : ((backTo cpos (starEach [e] X.env)).all (!·.1) && (backToKw cpos (keywordEach [] X.env)).all (·.1.isSome) && decide ([e].length + ([] : List Keyword).length + (if ([] : List Keyword).isEmpty then 0 else 1) < 30)) = true := by rfl)
    (h3 : (apos.endLine == cpos.line) = true := by rfl)
    (h4 : starEach [e] X.env = (false, eval e X.env) :: starEach [] X.env := by rfl) (h5 : (backTo cpos (starEach [] X.env)).any (·.1) = false := by rfl)
    (hs : swapsWith (.Call (.Attribute (.Name x p0) "extend" apos) [e] [] cpos) none pos.line X.env = pure false := by rfl) :
    PS X (.Expr (.Call (.Attribute (.Name x p0) "extend" apos) [e] [] cpos) pos) (liftS X.K Z m (dExt i wx)) :=
  PS.of (ps_expr (pe_bm PySem.F.plainAttrs_list PySem.F.slot_list_extend PySem.F.type_list_extend mt_extend (pe_var hN hv hd hcd) (pa_cons he pa_nil h4) h1 h2 h3 h4 h5) hs) fun D σ H ⟨g, F, env, P, k, w, q⟩ => by
    unfold dExt at w
    split at w
    · rename_i p' xs' ex
      obtain ⟨a0, us0, b1, _, b3, _⟩ := k.cel i p' xs' ex
      refine ⟨_, b1, .inl ⟨rfl, us0, SqL.of b3⟩, g, F, env, _, k, w, fun r env1 v F1 H1 p e1 k1 r1 => ?_⟩
      split at p
      · rename_i b2 ys p3 xs ex2
        obtain ⟨a1, us1, c1, c2, c3, c4, _⟩ := k1.cel i p3 xs ex2
        rw [b1] at c1
        cases c1
        obtain ⟨b, vs, rfl, hF, hH, r, h0, hpr, nw⟩ := r1
        exact ⟨a0, b, us1, vs, rfl, rfl, c3, hH, by rw [c4.length, r.length]; exact Evl.sz_of p.1, q.nx _ σ F1 _ p.2 e1 (k1.write ex2 b1 (c4.append r))⟩
      · exact p.elim
    · exact w.elim
end
end DL

namespace DL
variable {T : List (PySem.Addr × PySem.Str)} {Z : Zx T}
open PySem PySem.Spec PyProof.Rows L2
open Evl (Ex)
theorem intsB_ok : ∀ {us : List Value} {ns : List Int}, intsB us ns = true → Vals (ns.map V.int) us
  | [], [], _ => .nil
  | .int i t :: r, n :: ns, h => by
    obtain ⟨h1, h2⟩ := He.ba (show (decide (i = n) && intsB r ns) = true from h)
    have e : i = n := of_decide_eq_true h1
    subst e
    exact .cons ⟨t, rfl⟩ (intsB_ok h2)
  | [], _ :: _, h => by cases h
  | .int _ _ :: _, [], h => by cases h
  | .none :: _, ns, h => by cases ns <;> cases h
  | .ellipsis :: _, ns, h => by cases ns <;> cases h
  | .notImplemented :: _, ns, h => by cases ns <;> cases h
  | .bool _ :: _, ns, h => by cases ns <;> cases h
  | .float _ _ :: _, ns, h => by cases ns <;> cases h
  | .str _ _ :: _, ns, h => by cases ns <;> cases h
  | .bytes _ _ :: _, ns, h => by cases ns <;> cases h
  | .type _ :: _, ns, h => by cases ns <;> cases h
  | .builtin _ :: _, ns, h => by cases ns <;> cases h
  | .ref _ :: _, ns, h => by cases ns <;> cases h
theorem tupB_ok {K : PySem.W.Frag} {a : Addr} {ns : List Int} (h : tupB K a ns = true) (F : Hp) : TqT K F a (ns.map V.int) := by
  unfold tupB at h
  split at h
  · rename_i c its n sl e
    obtain ⟨h1, h⟩ := He.ba h
    obtain ⟨h2, h3⟩ := He.ba h
    have e1 : c = .type "tuple" := of_decide_eq_true h1
    have e2 : its.size ≤ 1000 := of_decide_eq_true h2
    exact .inr ⟨_, its, n, e, ⟨e1, rfl⟩, rfl, by rw [sizeLine_eq]; omega, intsB_ok h3⟩
  · cases h
def FxSays (fx : List Fx) (K : PySem.W.Frag) : Prop := fx.all (fun f => f.ok K) = true
def fxG (n : Nat) (fx : List Fx) (g : Addr → Option Obj) : Bool := match fx with
  | [] => true
  | f :: r => (f :: r).all fun f => f.ok (He.frG g (He.asG g n))
theorem fxG_all {n : Nat} {fx : List Fx} {g : Addr → Option Obj} (h : fxG n fx g = true) : FxSays fx (He.frG g (He.asG g n)) := by
  cases fx with
  | nil => rfl
  | cons f r => exact h
def hookX (n : Nat) (fa : List He.Fa) (fn : List He.FnD) (fx : List Fx) : PySem.W.Hook where
  α := He.Al × Bool × Bool
  obs := fun s => (He.obsG n fa fn s.heap.get?, sysB s.heap.get?, fxG n fx s.heap.get?)
  val := fun _ => (He.valE fn, true, true)
  says := fun _ h => (∃ K : PySem.W.Frag, K.In h ∧ He.SaysE fa fn K ∧ FxSays fx K) ∧ SysD h
  of := fun w s e => ⟨⟨He.frG s.heap.get? (He.asG s.heap.get? n), He.frG_in, congrArg Prod.fst e, fxG_all (congrArg (fun z => z.2.2) e)⟩, sysB_of (congrArg (fun z => z.2.1) e)⟩
  keeps := fun w h h' ⟨⟨K, hK, c⟩, o, es, ep, e, d⟩ k => ⟨⟨K, PySem.W.Frag.In.keeps hK k, c⟩, o, es, ep, k _ _ e, d⟩
theorem obsX_eq {n : Nat} {fa : List He.Fa} {fn : List He.FnD} {fx : List Fx} {g : Addr → Option Obj} {s : Shared} (h : ∀ a, g a = s.heap.get? a) : (He.obsG n fa fn g, sysB g, fxG n fx g) = (hookX n fa fn fx).obs s := by
  have e : g = s.heap.get? := funext h
  rw [e] <;> rfl
structure TopX (fa : List He.Fa) (fn : List He.FnD) (fx : List Fx) (K : PySem.W.Frag) (mg : Str → Option Value) : Prop extends Top fa fn K mg where
  more : FxSays fx K
theorem TopX.fact {fa : List He.Fa} {fn : List He.FnD} {fx : List Fx} {K : PySem.W.Frag} {mg : Str → Option Value} (T : TopX fa fn fx K mg) (i : Nat) {f : Fx} (h : fx[i]? = some f := by rfl) : f.ok K = true := List.all_eq_true.mp T.more f (List.mem_of_getElem? h)
/-- a tuple of whole numbers at the module's top -/
def CtT (K : PySem.W.Frag) (mg : Str → Option Value) (x : Str) (ns : List Int) : Prop := ∃ a, mg x = some (.ref a) ∧ tupB K a ns = true
theorem TopX.tup {fa : List He.Fa} {fn : List He.FnD} {fx : List Fx} {K : PySem.W.Frag} {mg : Str → Option Value} (T : TopX fa fn fx K mg) (x : Str) (ns : List Int) (i : Nat) (h : fx[i]? = some (.tup x ns) := by rfl) : CtT K mg x ns := by
  obtain ⟨hp, h1, h2⟩ := T.ns
  obtain ⟨c1, c2⟩ := He.ba (show (He.eqO (PySem.W.nsIn K mainGlobals x) (some (some (.ref (He.ga K x)))) && tupB K (He.ga K x) ns) = true from T.fact i h)
  exact ⟨_, PySem.W.mg_of h1 h2 (He.eqO_ok c1), c2⟩
/-- a class of refusals of the module -/
def CtE (K : PySem.W.Frag) (mg : Str → Option Value) (x : Str) : Prop := mg x = some (.ref (He.ga K x)) ∧ XcF K x
theorem TopX.exc {fa : List He.Fa} {fn : List He.FnD} {fx : List Fx} {K : PySem.W.Frag} {mg : Str → Option Value} (T : TopX fa fn fx K mg) (c : Str) (i : Nat) (h : fx[i]? = some (.exc c) := by rfl) : CtE K mg c := by
  obtain ⟨hp, h1, h2⟩ := T.ns
  obtain ⟨c1, c2⟩ := He.ba (show (He.eqO (PySem.W.nsIn K mainGlobals c) (some (some (.ref (He.ga K c)))) && xcB K c) = true from T.fact i h)
  exact ⟨PySem.W.mg_of h1 h2 (He.eqO_ok c1), xcB_ok c2⟩
/-- a text at the module's top -/
theorem TopX.txt {fa : List He.Fa} {fn : List He.FnD} {fx : List Fx} {K : PySem.W.Frag} {mg : Str → Option Value} (T : TopX fa fn fx K mg) (x z : Str) (i : Nat) (h : fx[i]? = some (.txt x z) := by rfl) : ∃ t, mg x = some (.str z t) := by
  obtain ⟨hp, h1, h2⟩ := T.ns
  exact He.str_ok h1 h2 (T.fact i h)
section
variable {X : Cx} {a b e : Expr} {we wa wb : DE} {pos : Pos}
theorem dtupK {x : Str} {ns : List Int} (hm : CtT X.K X.mg x ns) (hg : Gl X x := by rfl) (hdb : (x == ("__debug__" : Str)) = false := by decide) : PE X (.Name x pos) (liftE X.K Z (dC (.tuple (ns.map .int)))) := by
  obtain ⟨a, h1, h2⟩ := hm
  exact dglob (v := .ref a) h1 rfl (fun F => .tup (tupB_ok h2 F) (drs_ints ns)) hg hdb
theorem DRs.erase {K : PySem.W.Frag} {F : Hp} : ∀ {vs : List V} {ds : List PyData} (n : Nat), DRs K F vs ds → DRs K F (vs.eraseIdx n) (ds.eraseIdx n)
  | _, _, _, .nil => .nil
  | _, _, 0, .cons a b => b
  | _, _, n + 1, .cons a b => .cons a (b.erase n)
end
end DL

namespace DL
variable {T : List (PySem.Addr × PySem.Str)} {Z : Zx T}
open PySem PySem.Spec PyProof.Rows L2
open Evl (Ex)
section
variable {X : Cx} {a b e : Expr} {we wa wb : DE} {pos : Pos}
end
end DL

namespace DL
variable {T : List (PySem.Addr × PySem.Str)} {Z : Zx T}
open PySem PySem.Spec PyProof.Rows L2
open Evl (Ex)
section
variable {P : Program} {w : World} {A : Around} {E : Value → Shared → Prop} {s : Shared}
end
end DL

namespace DL
variable {T : List (PySem.Addr × PySem.Str)} {Z : Zx T}
open PySem PySem.Spec PyProof.Rows L2
open Evl (Ex)
/-- the members once each, rising -/
def sortSetQ (d : PyData) (K : List PyData → Prop) : Prop := match d with
  | .list ds => match intsD ds with
    | some ns => ns.length < 63 ∧ ∀ ms : List Int, ms.Pairwise (· < ·) → (∀ k, k ∈ ms ↔ k ∈ ns) → K (ms.map .int)
    | none => False
  | _ => False
section
variable {X : Cx} {a : Expr} {wa : DE} {p p2 pos pos2 : Pos}
end
end DL

namespace DL
variable {T : List (PySem.Addr × PySem.Str)} {Z : Zx T}
open PySem PySem.Spec PyProof.Rows L2
open Evl (Ex)
/-- what is told of a refusal: its class and the names' data -/
abbrev RD := Str → List SD → Prop
abbrev DSpX := List SD → (SD → List SD → Prop) → (Str → Prop) → Prop
abbrev XWish := Value → Option Addr → Hp → Prop
def spDX (T : List (Addr × Str)) (K : PySem.W.Frag) (S : DSpX) (vs : List V) (H : Hp) (Q : VK) (E : XWish) : Prop := ∃ (F : Hp) (as : List SD) (P : SD → List SD → Prop) (Ec : Str → Prop), ArgsOk T K F H vs as ∧ S as P Ec ∧
  (∀ r as' v F' H', P r as' → PostOk T K F H vs as F' H' as' v r → Q v H') ∧ ∀ c F' H', Ec c → XcF K c → PostOk T K F H vs as F' H' [] .non (.dat .none) → E (.ref (He.ga K c)) none H'
/-- no cell is handed in -/
def NoCel (as : List SD) : Prop := ∀ (i : Nat) (p : Bool) (xs : List PyData), as[i]? ≠ some (.cel p xs)
/-- as FnG, for a def that may refuse -/
structure FnX (P : Program) (w : World) (K : PySem.W.Frag) (mg : Str → Option Value) (base : Heap) (T : List (Addr × Str)) (k : Nat) (f : Addr) (fd : FuncData) (ps : List Str) (S : DSpX) : Prop where
  len : ∀ as Q E, S as Q E → as.length = ps.length
  nc : ∀ as Q E, S as Q E → NoCel as
  go : ∀ (A : Around) (outer : List Env) (s : Shared) (H : Hp) (args : Args) (us : List Value) (vs : List V) (Q : VK) (E : XWish), Room k A → A.guards = some [] → Env0 P w K mg base A outer s H →
    BindsTo s fd args (ps.zip us) → Vals vs us → spDX T K S vs H Q E → codeAny (model P w) A (.call (.ref f) args) (CR (L2N.CX P w) outer P w H s Q E) s
structure DnX (P : Program) (w : World) (K : PySem.W.Frag) (mg : Str → Option Value) (base : Heap) (T : List (Addr × Str)) (x : Str) (k : Nat) (ps : List Str) (S : DSpX) : Prop where
  ex : ∃ fd, FnX P w K mg base T k (He.ga K x) fd ps S ∧ Binds K fd ps []
  glo : mg x = some (.ref (He.ga K x))
  kp : PySem.W.keepIn K (.ref (He.ga K x)) = true
section
variable {X : Cx} {k : Nat} {f : Addr} {fd : FuncData} {ps : List Str} {S : DSpX} {x : Str} {p pos : Pos} {e : Expr} {es : List Expr} {was : DA} {Ed : RD}
end
section
variable {X : Cx} {m : Nat} {pos : Pos} {Ed : RD}
end
section
variable {X : Cx} {pins : List (Addr × Obj)} {σ : L2.St} {H : Hp} {s : Shared} {a C : Addr} {oe : Obj} {vs : Array Value}
theorem excAt_new (e : s.heap.get? a = some oe) (hz : L2N.Zn (.ref C) none oe) (hd : oe.data = .fields vs) {P : Program} {w : World} {H : Hp} : ObjOk P w H s.heap a (.ext (ExcAt C a)) :=
  ⟨⟨oe, vs, e, hz.1, hz.2.1, hd, hz.2.2 vs hd⟩, ⟨oe, e⟩, fun h1 h2 ⟨o, us, q1, q2, q3, q4⟩ kp => ⟨o, us, kp o q1, q2, q3, q4⟩⟩
theorem Inv.caught (I : Inv X pins σ H s) (hex : X.ex = []) (h0 : X.s_0.heap.get? a = none) (hp : ∀ q ∈ X.pn ++ pins, q.1 ≠ a) (e : s.heap.get? a = some oe) (hz : L2N.Zn (.ref C) none oe) (hd : oe.data = .fields vs) (na : H a = none)
    (nL : a ≠ X.env.locals) : Inv (X.suite a (X.pn ++ pins)) [] σ (upd H a (.ext (ExcAt C a))) s where
  ok := I.ok.suite _ _
  os := I.os
  bare := I.bare
  base := by
    have hxx : ∀ b : Addr, b ∉ X.ex := fun b hb => by rw [hex] at hb; cases hb
    refine ⟨I.base.keep, I.base.slot, fun b o q n z => ?_, I.base.there, fun b xs q => ?_, fun b o u q => ?_, fun b ps q => ?_⟩
    · have ne : b ≠ a := fun y => by
        subst y
        have q' : X.s_0.heap.get? b = some o := q
        rw [h0] at q'
        cases q'
      rw [upd_ne ne]
      exact I.base.free b o q n z
    · have r := I.base.tups b xs q
      rw [upd_ne (ne_of_none r na)]
      exact r
    · have r := I.base.frzs b o u q
      rw [upd_ne (ne_of_none r na)]
      exact r
    · obtain ⟨more, r⟩ := I.base.tbls b ps q
      exact ⟨more, by rw [upd_ne (ne_of_none r na)]; exact r⟩
  loc := I.loc
  cell := I.cell
  free := by
    show upd H a (.ext (ExcAt C a)) X.env.locals = none
    rw [upd_ne (Ne.symm nL)]
    exact I.free
  freeC := fun x c q => by
    obtain ⟨v, hv⟩ := I.cell x c q
    have ne : c ≠ a := fun y => by
      subst y
      obtain ⟨o, h1, h2⟩ := hv
      rw [e] at h1
      cases h1
      rw [hd] at h2
      cases h2
    rw [upd_ne ne]
    exact I.freeC x c q
  pin := fun q hq => by
    rw [List.append_nil] at hq
    obtain ⟨z1, z2, z3, z4, z5⟩ := I.pin q hq
    exact ⟨z1, by rw [upd_ne (hp q hq)]; exact z2, z3, z4, z5⟩
  hok := fun b o q => by
    by_cases hb : b = a
    · subst hb
      rw [upd_same] at q
      cases q
      exact excAt_new e hz hd
    · rw [upd_ne hb] at q
      exact (I.hok b o q).stay (fun c u _ z => z) (fun c z => by rw [upd_ne (ne_of_none z na)]; exact z) fun c xs z => by rw [upd_ne (ne_of_none z na)]; exact z
  len := I.len
end
end DL

namespace DL
variable {T : List (PySem.Addr × PySem.Str)} {Z : Zx T}
open PySem PySem.Spec PyProof.Rows L2
open Evl (Ex)
section
variable {K : PySem.W.Frag} {g : Gx Z} {F : Hp} {env : List SD} {σ : L2.St} {H : Hp}
end
section
variable {X : Cx} {m i : Nat} {pos pos' np : Pos} {n : Str} {body suite : List Stmt} {b₀ : Stmt} {wb : RD → DS} {ws : DS}
end
end DL

namespace DL
variable {T : List (PySem.Addr × PySem.Str)} {Z : Zx T}
open PySem PySem.Spec PyProof.Rows L2
open Evl (Ex)
section
variable {P : Program} {w : World} {K : PySem.W.Frag} {mg : Str → Option Value} {base : Heap}
end
/-- where nothing is refused, such a def is a plain one -/
theorem DnX.calm {P : Program} {w : World} {K : PySem.W.Frag} {mg : Str → Option Value} {base : Heap} {x : Str} {k : Nat} {ps : List Str} {S : DSpX} (D : DnX P w K mg base T x k ps S) : Dn P w K mg base T x k ps (fun as Q => S as Q fun _ => False) := by
  obtain ⟨⟨fd, G, hb⟩, h1, h2⟩ := D
  refine ⟨⟨fd, ⟨fun as Q h => G.len as Q _ h, fun A outer s H args us vs Q hr hA e0 bt rv ⟨F, as, P, a1, a2, a3⟩ => ?_⟩, hb⟩, h1, h2⟩
  refine codeAny_mono (G.go A outer s H args us vs Q (fun _ _ _ => False) hr hA e0 bt rv ⟨F, as, P, _, a1, a2, a3, fun _ _ _ z _ _ => z⟩) fun r s' h => ?_
  match r, h with
  | .error e, h =>
    obtain ⟨_, _, _, _, _, _, _, _, _, _, _, _, z⟩ := h
    exact z.elim
  | .ok (.ret u), h => exact h
  | .ok .next, h => exact h
  | .ok .brk, h => exact h
  | .ok .cont, h => exact h
theorem DnX.imp {P : Program} {w : World} {K : PySem.W.Frag} {mg : Str → Option Value} {base : Heap} {x : Str} {k : Nat} {ps : List Str} {S S' : DSpX} (D : DnX P w K mg base T x k ps S) (h : ∀ as Q E, S' as Q E → S as Q E) : DnX P w K mg base T x k ps S' := by
  obtain ⟨⟨fd, G, hb⟩, h1, h2⟩ := D
  exact ⟨⟨fd, ⟨fun as Q E q => G.len as Q E (h _ _ _ q), fun as Q E q => G.nc as Q E (h _ _ _ q), fun A outer s H args us vs Q E hr hA e0 bt rv ⟨F, as, P, Ec, a1, a2, a3⟩ => G.go A outer s H args us vs Q E hr hA e0 bt rv ⟨F, as, P, Ec, a1, h _ _ _ a2, a3⟩⟩, hb⟩, h1, h2⟩
section
variable {X : Cx} {a : Expr} {wa : DE} {p q2 pos : Pos} {es : List Expr} {ds : List Str}
end
end DL

namespace DL
variable {T : List (PySem.Addr × PySem.Str)} {Z : Zx T}
open PySem PySem.Spec PyProof.Rows L2
open Evl (Ex)
section
variable {K : PySem.W.Frag} {g : Gx Z} {F : Hp} {env : List SD} {σ : L2.St} {H : Hp}
/-- no name's cell is at D -/
def NoNm (env : List SD) (σ : L2.St) (D : Addr) : Prop := ∀ (j : Nat) (p : Bool) (ys : List PyData), env[j]? = some (.cel p ys) → σ[j]? ≠ some (some (.ref D))
end
abbrev KB := List (Key × V)
def KeysAre (kvs : KB) (ks : List Int) : Prop := kvs.map (·.1) = ks.map Sum.inl ∧ ks.Nodup
def intQ (d : PyData) (P : Prop) : Prop := match d with
  | .int _ => P
  | _ => False
def dsetN {I : Type} (f : I → PyData → (I → PyData → Prop) → (I → Prop) → Prop) (i : I) : List PyData → List PyData → (List PyData → Prop) → Prop
  | [], acc, K => sortSetQ (.list acc) K
  | d :: r, acc, K => f i d (fun i' k => i' = i ∧ intQ k (acc.length ≤ 1000 ∧ dsetN f i r (acc ++ [k]) K)) fun i' => i' = i ∧ dsetN f i r acc K
/-- sealed: the items aren't walked by the kernel -/
inductive dsetQ {I : Type} (f : I → PyData → (I → PyData → Prop) → (I → Prop) → Prop) (i : I) (items acc : List PyData) (K : List PyData → Prop) : Prop
  | mk : dsetN f i items acc K → dsetQ f i items acc K
theorem dsetQ.out {I : Type} {f : I → PyData → (I → PyData → Prop) → (I → Prop) → Prop} {i : I} {items acc : List PyData} {K : List PyData → Prop} (h : dsetQ f i items acc K) : dsetN f i items acc K := by
  cases h with
  | mk h => exact h
section
variable {X : Cx} {tg iter test key a b : Expr} {wa wb wk : DE} {wi : DI} {wt : DT} {D r : Str}
/-- what stands of the dict in the course of the walk -/
structure Dst (K : PySem.W.Frag) (g : Gx Z) (F : Hp) (env : List SD) (σ : L2.St) (H : Hp) (iD : Nat) (A : Addr) (acc : List PyData) (kvs : KB) : Prop where
  ok : Ok K g F env σ H
  slot : σ[iD]? = some (some (.ref A))
  hF : F A = none
  hH : H A = some (.dK kvs)
  keys : ∃ (ks ns : List Int), KeysAre kvs ks ∧ acc = ns.map PyData.int ∧ (∀ m, m ∈ ks ↔ m ∈ ns) ∧ ks.length ≤ ns.length
  nw : NoNm env σ A
end
end DL

namespace DL
variable {T : List (PySem.Addr × PySem.Str)} {Z : Zx T}
open PySem PySem.Spec PyProof.Rows L2
open Evl (Ex)
section
variable {X : Cx}
end
section
variable {X : Cx} {a e : Expr} {wa we : DE} {apos cpos : Pos}
end
section
variable {X : Cx} {e : Expr} {we : DE} {apos pos p0 : Pos} {j0 : Nat}
end
end DL

namespace DL
variable {T : List (PySem.Addr × PySem.Str)} {Z : Zx T}
open PySem PySem.Spec PyProof.Rows L2
open Evl (Ex)
theorem _root_.L2H.RoomH.units {k : Nat} {A : Around} (r : L2H.RoomH k A) : A.units + 64 < cLine := by have := r.un; omega
theorem _root_.L2H.RoomH.u65 {k : Nat} {A : Around} (r : L2H.RoomH k A) : A.units + 65 < cLine := by have := r.un; omega
/-- as FnG, whatever is handled -/
structure FnB (P : Program) (w : World) (K : PySem.W.Frag) (mg : Str → Option Value) (base : Heap) (T : List (Addr × Str)) (k : Nat) (f : Addr) (fd : FuncData) (ps : List Str) (S : DSp) : Prop where
  len : ∀ as Q, S as Q → as.length = ps.length
  go : ∀ (A : Around) (outer : List Env) (s : Shared) (H : Hp) (args : Args) (us : List Value) (vs : List V) (Q : VK), L2H.RoomH k A → A.guards = some [] → Env0 P w K mg base A outer s H →
    BindsTo s fd args (ps.zip us) → Vals vs us → spD T K S vs H Q → codeAny (model P w) A (.call (.ref f) args) (CR CX0 outer P w H s Q E0) s
structure DnB (P : Program) (w : World) (K : PySem.W.Frag) (mg : Str → Option Value) (base : Heap) (T : List (Addr × Str)) (x : Str) (k : Nat) (ps : List Str) (S : DSp) : Prop where
  ex : ∃ fd, FnB P w K mg base T k (He.ga K x) fd ps S ∧ Binds K fd ps []
  glo : mg x = some (.ref (He.ga K x))
  kp : PySem.W.keepIn K (.ref (He.ga K x)) = true
section
variable {P : Program} {w : World} {K : PySem.W.Frag} {mg : Str → Option Value} {base : Heap}
end
section
variable {X : Cx} {k : Nat} {f : Addr} {fd : FuncData} {ps : List Str} {S : DSp} {x : Str} {p pos : Pos} {e : Expr} {es : List Expr} {was : DA}
end
end DL

namespace DL
variable {T : List (PySem.Addr × PySem.Str)} {Z : Zx T}
open PySem PySem.Spec PyProof.Rows L2
open Evl (Ex)
def keyS (e : Int × Value) : Str := match e.2 with | .str k _ => k | _ => Str.empty
def GoodS (w : World) (e : Int × Value) : Prop := ∃ k t, e.2 = Value.str k t ∧ e.1 = hashStr w k
/-- a set of the texts ys, each once -/
def SetS (w : World) (h : Heap) (a : Addr) (ys : List Str) : Prop :=
  ∃ ob es ep tb, h.get? a = some ob ∧ ob.ExactSet ∧ ob.data = .set es ep tb ∧ (∀ e ∈ es.toList, GoodS w e) ∧ (es.toList.map keyS).Perm ys ∧ ys.Nodup ∧
    es.size < scanBound ∧ tb.fits es.size = true ∧ Ris tb.place.toList ∧ (w.params.followText "set-order" = true ∨ tb.led = true)
section
variable {P : Program} {w : World} {h h' : Heap} {a : Addr} {ys : List Str}
theorem SetS.at (R : SetS w h a ys) (k : ∀ o, h.get? a = some o → h'.get? a = some o) : SetS w h' a ys := by
  obtain ⟨ob, es, ep, tb, ho, r⟩ := R
  exact ⟨ob, es, ep, tb, k ob ho, r⟩
theorem SetS.size (R : SetS w h a ys) : ys.length < scanBound := by
  obtain ⟨ob, es, ep, tb, _, _, _, _, pm, _, hb, _⟩ := R
  rw [← pm.length_eq, List.length_map, Array.length_toList]
  exact hb
end
section
variable {P : Program} {w : World} {A : Around} {E : Value → Shared → Prop} {s : Shared} {a : Addr} {ys : List Str}
end
end DL

namespace DL
variable {T : List (PySem.Addr × PySem.Str)} {Z : Zx T}
open PySem PySem.Spec PyProof.Rows L2
open Evl (Ex)
/-- each once -/
def dd : List Str → List Str → List Str
  | acc, [] => acc
  | acc, k :: r => dd (if k ∈ acc then acc else k :: acc) r
section
variable {P : Program} {w : World} {A : Around} {E : Value → Shared → Prop} {s : Shared}
end
end DL

namespace DL
variable {T : List (PySem.Addr × PySem.Str)} {Z : Zx T}
open PySem PySem.Spec PyProof.Rows L2
open Evl (Ex)
section
variable {X : Cx}
end
section
variable {X : Cx} {a : Expr} {wa : DE} {p p2 pos pos2 : Pos}
end
end DL

namespace DL
variable {T : List (PySem.Addr × PySem.Str)} {Z : Zx T}
open PySem PySem.Spec PyProof.Rows L2
open Evl (Ex)
section
variable {X : Cx} {a b e : Expr} {we wa wb : DE} {pos : Pos}
end
end DL

namespace DL
variable {T : List (PySem.Addr × PySem.Str)} {Z : Zx T}
open PySem PySem.Spec PyProof.Rows L2
open Evl (Ex)
section
variable {X : Cx} {a b e : Expr} {we wa wb : DE} {pos p p2 pos2 : Pos}
end
end DL

namespace DL
variable {T : List (PySem.Addr × PySem.Str)} {Z : Zx T}
open PySem PySem.Spec PyProof.Rows L2
open Evl (Ex)
section
variable {X : Cx}
/-- sorted(xs): the items by their data, like ones in their order -/
def rSortDD (K : PySem.W.Frag) : List V → Hp → VK → Prop := fun vs H Q => ∃ (a : Addr) (xs : List V) (ds : List PyData), vs = [V.ref a] ∧ SqL K H a xs ∧ DpAll K H xs ds ∧ PySem.W.AllAlike ds ∧ PySem.W.Sortable ds ∧ (∀ d ∈ ds, d.depth ≤ 60) ∧
  ∀ (zs : List (V × PyData)) (p : Addr), zs = (xs.zip ds).mergeSort (PySem.W.dataLe false Prod.snd) → H p = none → Q (.ref p) (upd H p (.lst (zs.map Prod.fst)))
theorem zip_snd : ∀ {xs : List V} {ds : List PyData}, xs.length = ds.length → (xs.zip ds).map Prod.snd = ds
  | [], [], _ => rfl
  | x :: xs, d :: ds, h => by
    rw [List.zip_cons_cons, List.map_cons, zip_snd (by simpa using h)]
theorem DpAll.len {K : PySem.W.Frag} {H : Hp} : ∀ {xs : List V} {ds : List PyData}, DpAll K H xs ds → xs.length = ds.length
  | [], [], _ => rfl
  | _ :: _, _ :: _, .cons _ t => by rw [List.length_cons, List.length_cons, DpAll.len t]
theorem each_zip {R : Value → V × PyData → Prop} {h : Heap} : ∀ {its : List Value} {xs : List V} {ds : List PyData} {as : List Addr}, Vals xs its → ReadsAll h its ds as → PySem.W.EachIs (fun v (p : V × PyData) => RelV p.1 v ∧ ∃ as, Reads h v p.2 as) its (xs.zip ds)
  | _, [], ds, _, r, t => by
    cases r
    exact .nil
  | _, x :: xs, [], _, r, t => by
    cases t
    cases r
  | _, x :: xs, d :: ds, _, r, t => by
    cases r with
    | cons r1 r2 =>
      cases t with
      | cons t1 t2 => exact .cons ⟨r1, _, t1⟩ (each_zip (R := R) r2 t2)
theorem vals_each {R : Value → V × PyData → Prop} : ∀ {out : List Value} {zs : List (V × PyData)}, PySem.W.EachIs (fun v (p : V × PyData) => RelV p.1 v) out zs → Vals (zs.map Prod.fst) out
  | _, _, .nil => .nil
  | _, _, .cons a t => .cons a (vals_each (R := R) t)
theorem cr_sortedDD (hu : X.A.units + 65 < cLine) : CallR X (.builtin "sorted") (rSortDD X.K) := by
  intro pins s σ H vs us Q I r h
  obtain ⟨a, xs, ds, rfl, hs, hd, hal, hk, hdep, q⟩ := h
  rw [Vals.ref1 r]
  obtain ⟨its, rv, pl, hz⟩ := I.list hs
  obtain ⟨as, h4⟩ := Dp.readsAll I ds _ its hd rv
  have hlen := DpAll.len hd
  have e := each_zip (R := fun _ _ => True) rv h4
  have es : (xs.zip ds).map Prod.snd = ds := zip_snd hlen
  have lz : (xs.zip ds).length = xs.length := by rw [List.length_zip, hlen, Nat.min_self]
  refine PySem.W.sorted_data (R := fun v (p : V × PyData) => RelV p.1 v) (enc := Prod.snd) (bs := xs.zip ds) pl.isList (e.mono fun _ _ z => z.1) (e.mono fun _ _ z => z.2) (by rw [es]; exact hal) (by rw [es]; exact hk) (by rw [lz]; exact hz) (fun p hp => ?_) fun out hol ho => ?_
  · have : p.2 ∈ ds := by rw [← es]; exact List.mem_map.mpr ⟨p, hp, rfl⟩
    have := hdep _ this
    omega
  · obtain ⟨c, hc⟩ := sortedAll_at s.heap its (List.toArray out)
    have hn := I.hok.fresh (Nat.le_succ s.heap.objs.size)
    refine ⟨.ref (s.heap.objs.size + 1), upd H (s.heap.objs.size + 1) (.lst (((xs.zip ds).mergeSort (PySem.W.dataLe false Prod.snd)).map Prod.fst)), I.laid (t' := s.toks) (fun b u hb => sortedAll_old hb) (Nat.le_succ _) ⟨?_, out, c, vals_each (R := fun _ _ => True) ho, hc⟩, rfl, q _ _ rfl hn⟩
    rw [List.length_map, List.length_mergeSort, lz]
    exact hz
end
def sortD (ds : List PyData) : List PyData := ds.mergeSort (PySem.W.dataLe false id)
def sortOk (ds : List PyData) : Prop := PySem.W.AllAlike ds ∧ PySem.W.Sortable ds ∧ (∀ d ∈ ds, d.depth ≤ 60) ∧ PyData.hasDictAll ds = false
def sortedQ (d : PyData) (K : List PyData → Prop) : Prop := match d with
  | .list ds => sortOk ds ∧ K (sortD ds)
  | _ => False
theorem q_sorted {ds : List PyData} {K : List PyData → Prop} : sortedQ (.list ds) K = (sortOk ds ∧ K (sortD ds)) := rfl
theorem sortD_perm (ds : List PyData) : (sortD ds).Perm ds := List.mergeSort_perm _ _
theorem drs_zip {K : PySem.W.Frag} {F : Hp} : ∀ {xs : List V} {ds : List PyData}, DRs K F xs ds → ∀ p ∈ xs.zip ds, DR K F p.1 p.2
  | [], _, _, p, h => by simp at h
  | x :: xs, [], r, p, h => by simp at h
  | x :: xs, d :: ds, r, p, h => by
    cases r with
    | cons a b =>
      rw [List.zip_cons_cons] at h
      rcases List.mem_cons.mp h with rfl | h
      · exact a
      · exact drs_zip b p h
theorem drs_of {K : PySem.W.Frag} {F : Hp} : ∀ {zs : List (V × PyData)}, (∀ p ∈ zs, DR K F p.1 p.2) → DRs K F (zs.map Prod.fst) (zs.map Prod.snd)
  | [], _ => .nil
  | z :: zs, h => .cons (h z List.mem_cons_self) (drs_of fun p hp => h p (List.mem_cons_of_mem _ hp))
abbrev dSorted (wa : DE) (env : List SD) (P : SD → List SD → Prop) : Prop := wa env fun d env1 => sortedQ d fun xs => P (.cel false xs) env1
section
variable {X : Cx} {a : Expr} {wa : DE} {p pos : Pos}
theorem dsorted {k : Nat} (hr : Room k X.A) (hm : X.mg "sorted" = none) (ha : PE X a (liftE X.K Z wa)) (hg : Gl X "sorted" := by rfl)
    (n1 : starEach [a] X.env = (false, eval a X.env) :: starEach [] X.env := by rfl) :
    PE X (.Call (.Name "sorted" p) [a] [] pos) (liftX X.K Z (dSorted wa)) :=
  PE.of (pe_callB (cr_sortedDD hr.u65) hg hm (by decide +kernel) (pa_cons ha pa_nil n1) (by decide) (by decide) n1 (by rfl)) fun σ H Q ⟨g, F, env, P, k, w, q⟩ =>
    ⟨g, F, env, _, k, w, fun d env1 v F1 H1 p e1 k1 r1 => by
      unfold sortedQ at p
      split at p
      · rename_i ds
        obtain ⟨⟨s1, s2, s3, s4⟩, p⟩ := p
        obtain ⟨l, us, rfl, h1, h2⟩ := r1.inv_lst
        refine ⟨l, us, ds, rfl, (h1.mono k1.fh).sq, DRs.dp (drsH k1 h2) s4, s1, s2, s3, fun zs a2 ez hp2 => ?_⟩
        subst ez
        have hl := h2.length
        have em : ((us.zip ds).mergeSort (PySem.W.dataLe false Prod.snd)).map Prod.snd = sortD ds := by
          have := PySem.W.sort_maps (r := PySem.W.dataLe false (Prod.snd (α := V))) (s := PySem.W.dataLe false id) Prod.snd (l := us.zip ds) (fun _ _ _ _ => rfl)
          rw [this, zip_snd hl]
          rfl
        have dr := drs_of (zs := (us.zip ds).mergeSort (PySem.W.dataLe false Prod.snd)) fun p hp => drs_zip h2 p ((List.mergeSort_perm _ _).mem_iff.mp hp)
        rw [em] at dr
        obtain ⟨k3, r3⟩ := k1.newCell hp2 dr
        exact q _ env1 _ F1 _ p e1 k3 r3
      · exact p.elim⟩
end
end DL

namespace DL
variable {T : List (PySem.Addr × PySem.Str)} {Z : Zx T}
open PySem PySem.Spec PyProof.Rows L2
open Evl (Ex)
section
variable {X : Cx}
def rAnyI (K : PySem.W.Frag) : List V → Hp → VK → Prop := fun vs H Q => ∃ (a : Addr) (ns : List Int), vs = [V.ref a] ∧ SqL K H a (ns.map V.int) ∧ Q (.bl (ns.any fun n => n != 0)) H
theorem readsAll_intsI {h : Heap} : ∀ {its : List Value} {ns : List Int}, Vals (ns.map V.int) its → ∃ as, ReadsAll h its (ns.map PyData.int) as
  | _, [], r => by
    cases r
    exact ⟨[], .nil⟩
  | _, n :: ns, r => by
    cases r with
    | cons a t =>
      obtain ⟨k, rfl⟩ := a
      obtain ⟨as, q⟩ := readsAll_intsI (h := h) t
      exact ⟨_, .cons (Reads.int n _) q⟩
theorem plain_intsI : ∀ ns : List Int, PyData.plainAll (ns.map PyData.int) = true
  | [] => rfl
  | n :: ns => by rw [List.map_cons, PyData.plainAll, plain_intsI ns]; rfl
theorem cr_anyI (hc : X.calm = true) : CallR X (.builtin "any") (rAnyI X.K) := by
  intro pins s σ H vs us Q I r h
  obtain ⟨a, ns, rfl, hs, q⟩ := h
  obtain ⟨its, rv, hl, _⟩ := I.list hs
  rw [Vals.ref1 r]
  obtain ⟨as, hr⟩ := readsAll_intsI (h := s.heap) rv
  refine PySem.W.any_list_data (I.ok.hd hc) hl.isList (vs := its.toArray) (xs := ns.map .int) (by simpa using hr) (plain_intsI ns) (fun x hx => ?_) fun h' tk hk => ?_
  · obtain ⟨n, _, rfl⟩ := List.mem_map.mp hx
    exact trivial
  · refine ⟨.bl _, H, I.kept fun b o eo => hk b o eo, ?_, q⟩
    show Value.bool _ = Value.bool _
    rw [List.any_map]
    rfl
/-- any(xs): whole numbers -/
def nAnyI (xs : List PyData) (P : PyData → Prop) : Prop := match xs with
  | [.list ds] => match intsD ds with
    | some ns => P (.bool (ns.any fun n => n != 0))
    | none => False
  | _ => False
variable {e : Expr} {es : List Expr} {was : DA} {pos p : Pos}
theorem danyI (hm : X.mg "any" = none) (hc : X.calm = true) (ha : PA X (e :: es) (liftA X.K Z was)) (hg : Gl X "any" := by rfl)
    (he : starEach (e :: es) X.env = (false, eval e X.env) :: starEach es X.env := by rfl) (hpl : (backTo pos (starEach es X.env)).any (·.1) = false := by rfl) : PE X (.Call (.Name "any" p) (e :: es) [] pos) (liftE X.K Z (dB nAnyI was)) :=
  dcb (cr_anyI hc) (fun _ _ g F env σ H vs ds P Q k r f q => by
    unfold nAnyI at f
    split at f
    · split at f
      · rename_i bs e
        obtain ⟨v, rfl, r0⟩ := r.inv1
        obtain ⟨a, us, rfl, h1, h2⟩ := r0.inv_lst
        cases ints_rel h2 e
        exact ⟨a, bs, rfl, (h1.mono k.fh).sq, q _ _ F H f (Ex.refl F) k (.bl _)⟩
      · exact f.elim
    · exact f.elim) hm (by decide +kernel) ha hg (by decide) (by decide) he hpl
end
end DL

namespace DL
variable {T : List (PySem.Addr × PySem.Str)} {Z : Zx T}
open PySem PySem.Spec PyProof.Rows L2
section
variable {fa : List He.Fa} {fn : List He.FnD} {K : PySem.W.Frag} {mg : Str → Option Value}
end
end DL

namespace DL
variable {T : List (PySem.Addr × PySem.Str)} {Z : Zx T}
open PySem PySem.Spec PyProof.Rows L2
open Evl (Ex)
section
variable {X : Cx} {pins : List (Addr × Obj)} {σ : L2.St} {H : Hp} {s : Shared}
theorem TqT.obj (I : Inv X pins σ H s) {a : Addr} {xs : List V} (h : TqT X.K H a xs) : ∃ o, s.heap.get? a = some o ∧ PlT o := by
  rcases h with ⟨o, h, p⟩ | ⟨o, _, _, h, p, _⟩
  · exact ⟨o, (I.hok a _ h).1, p⟩
  · exact ⟨o, I.kIn a o h, p⟩
end
section
variable {X : Cx}
end
section
variable {X : Cx} {a e : Expr} {wa we : DE} {apos cpos : Pos}
end
end DL

namespace DL
variable {T : List (PySem.Addr × PySem.Str)} {Z : Zx T}
open PySem PySem.Spec PyProof.Rows L2 PySem.W
open Evl (Ex)
section
variable {prog : Program} {w : World} {A : Around} {E : Value → Shared → Prop} {s : Shared}
end
section
variable {X : Cx}
end
section
variable {X : Cx} {a : Expr} {wa : DE} {p pos : Pos}
end
end DL

namespace DL
variable {T : List (PySem.Addr × PySem.Str)} {Z : Zx T}
open PySem PySem.Spec PyProof.Rows L2 PySem.W
open Evl (Ex)
def kyOf : PyData → Option Key
  | .int n => some (.inl n)
  | .str x => some (.inr x)
  | _ => none
def keyD : Key → PyData
  | .inl n => .int n
  | .inr x => .str x
abbrev KVD := List (List Key × PyData)
def atD (kvs : KVD) (k : List Key) : Option PyData := (kvs.find? fun p => decide (p.1 = k)).map (·.2)
def putD (kvs : KVD) (k : List Key) (d : PyData) : KVD := if (atD kvs k).isSome = true then kvs.map (fun p => if p.1 = k then (p.1, d) else p) else kvs ++ [(k, d)]
theorem ky_val {K : PySem.W.Frag} {F : Hp} {v : V} {d : PyData} {k : Key} (h : kyOf d = some k) (r : DR K F v d) : v = kV k := by
  cases d with
  | int n => cases h; cases r; rfl
  | str x => cases h; cases r; rfl
  | _ => cases h
section
variable {K : PySem.W.Frag} {F : Hp}
theorem DicR.val {kvs : KVD} {xs : List (List Key × Addr × Value)} (r : DicR K F kvs xs) (k : List Key) : (atD kvs k = none ∧ atKey xs k = none) ∨ ∃ d p v, atD kvs k = some d ∧ atKey xs k = some p ∧ DR K F v d ∧ RelV v p.2 := by
  unfold DicR at r
  induction r with
  | nil => exact .inl ⟨rfl, rfl⟩
  | @cons p q ps qs h t ih =>
    obtain ⟨h1, _, v, h2, h3⟩ := h
    by_cases e : p.1 = k
    · exact .inr ⟨p.2, q.2, v, by simp [atD, List.find?_cons, e], by simp [atKey, List.find?_cons, ← h1, e], h2, h3⟩
    · have e' : ¬ q.1 = k := fun z => e (h1.trans z)
      have a : atD (p :: ps) k = atD ps k := by simp [atD, List.find?_cons, e]
      have b : atKey (q :: qs) k = atKey qs k := by simp [atKey, List.find?_cons, e']
      rw [a, b]
      exact ih
theorem DicR.put {kvs : KVD} {xs : List (List Key × Addr × Value)} (r : DicR K F kvs xs) (k : List Key) {b : Addr} {d : PyData} {v : V} {u : Value} (hb : TqT K F b (k.map kV)) (hd : DR K F v d) (hu : RelV v u) : DicR K F (putD kvs k d) (storedH xs k b u) := by
  have e : (atD kvs k).isSome = (atKey xs k).isSome := by
    rcases r.val k with ⟨e1, e2⟩ | ⟨_, _, _, e1, e2, _⟩ <;> rw [e1, e2] <;> rfl
  unfold putD storedH
  rw [e]
  by_cases q : (atKey xs k).isSome = true
  · rw [if_pos q, if_pos q]
    clear e q
    unfold DicR at r ⊢
    induction r with
    | nil => exact .nil
    | @cons p q ps qs h t ih =>
      rw [List.map_cons, List.map_cons]
      refine .cons ?_ ih
      obtain ⟨h1, h2, h3⟩ := h
      unfold putAt
      by_cases e : p.1 = k
      · rw [if_pos e, if_pos (h1.symm.trans e)]; exact ⟨h1, h2, v, hd, hu⟩
      · rw [if_neg e, if_neg (fun z => e (h1.trans z))]; exact ⟨h1, h2, h3⟩
  · rw [if_neg q, if_neg q]
    exact Paired.snoc r ⟨rfl, hb, v, hd, hu⟩
end
section
variable {X : Cx} {pins : List (Addr × Obj)} {σ : L2.St} {H : Hp} {s : Shared} {a b : Addr} {F : Hp} {kvs : KVD} {xs : List (List Key × Addr × Value)}
end
section
variable {K : PySem.W.Frag} {g : Gx Z} {F : Hp} {env : List SD} {σ : L2.St} {H : Hp}
theorem Ok.ownAt (k : Ok K g F env σ H) {i : Nat} {w : Own} (he : env[i]? = some (.dic w)) : ∃ a, σ[i]? = some (some (.ref a)) := by
  obtain ⟨B, db⟩ := k.dic
  obtain ⟨a, h1, h2⟩ := db.at_ i _ he
  exact ⟨a, h1⟩
end
section
variable {X : Cx} {e b : Expr} {we wb : DE} {m : Nat} {pos : Pos}
end
end DL

namespace DL
variable {T : List (PySem.Addr × PySem.Str)} {Z : Zx T}
open PySem PySem.Spec PyProof.Rows L2 PySem.W
open Evl (Ex)
section
variable {X : Cx}
section
variable {k0 : Nat} {a : Expr} {pos p0 : Pos} {x : Str} {wa : DE}
end
end
end DL

namespace DL
variable {T : List (PySem.Addr × PySem.Str)} {Z : Zx T}
open PySem PySem.Spec PyProof.Rows L2
open Evl (Ex)
section
variable {P : Program} {w : World} {K : PySem.W.Frag} {mg : Str → Option Value} {base : Heap}
theorem dfnW (m : Nat) {x qual : Str} {st : Stmt} {f : Addr} {fd : FuncData} {N ps : List Str} {k : Nat} {S : DSp} (Fn : Fun K x qual st f fd) (sc : FnScope N ps (defScope st)) (len : ∀ as Q, S as Q → as.length = ps.length) (cels : CelsIn m S)
    (hbody : ∀ {Z : Zx T} (cdv : Value) (A : Around) (outer : List Env) (s : Shared) (H : Hp), Z.P = P → Z.w = w → Room k (A.deeper (envOfC qual (defScope st) s.heap.objs.size f cdv)) → (A.deeper (envOfC qual (defScope st) s.heap.objs.size f cdv)).guards = some [] →
      ∃ t : DS, PSs (cxOf CX0 P w K mg base N qual (defScope st) f cdv A outer s H E0).nox (defBody st) (liftS K Z m t) ∧
        ∀ as Q, S as Q → t (defEnds m Q) (as ++ List.replicate (N.length - ps.length) .un)) : FnG P w K mg base T (k + 1) f fd ps S := by
  obtain ⟨oc, od, kV, doc, pm, an, cdv, ct, osl, rfl, lk, hcd⟩ := Fn.ex
  refine ⟨len, fun A outer s H args us vs Q hr hg e0 hb rv ⟨F0, as, PP, ha, hS, hQ⟩ => ?_⟩
  have hl : vs.length = ps.length := ha.len.symm.trans (len as PP hS)
  have hpl : ps.length ≤ N.length := by
    have := congrArg List.length sc.pre
    rw [List.length_take] at this
    omega
  have KX : K.In s.heap := e0.mod.kin.keeps fun b o e => (e0.bs b o e).1
  refine codeAny_call_function hr.depth (KX _ _ lk) rfl sc.co sc.gen rfl (PySem.W.codeRec_of KX hcd) (hb _ _ _ _ (wpAny_newFunctionEnv_cells sc.kind (fun ⟨n, v⟩ hy => ?_) fun env he s1 x => ?_))
  · rcases sc.par n (List.of_mem_zip hy).1 with q | q
    · exact .inl q
    · exact .inr ⟨q, PySem.W.cellsFrom_some _ _ _ (.inl q)⟩
  · subst he
    obtain ⟨t, ht, hq⟩ := hbody (Z := entryZ T P w F0 H vs as) cdv A outer s H rfl rfl (hr.deeper _) hg
    have I : Inv (cxOf CX0 P w K mg base N qual (defScope st) f cdv A outer s H E0) [] (start N vs) H s1 := inv_start sc hr.hd e0 hl rv x
    refine ⟨(e0.mod.nolimit.keeps fun b o e => (e0.bs b o e).1).keeps x.toInCall.keep, codeAny_func (wpAny_mono (ht.nox.run [] s1 (start N vs) H { nx := fun _ H' => Q .non H', rt := Q } I ?_) (fun fl s' hs => ?_) fun e s' hs => hs)⟩
    · have al : as.length = ps.length := len as PP hS
      refine ⟨entryG T P w F0 H vs as, F0, _, _, entry_ok ha al hpl, hq as PP hS, ?_⟩
      exact .mk4 (.mk (fun env' σ' F' H' p _ k' => hQ _ _ _ _ _ p (post_of k' (cels _ _ hS) .non)) (fun _ _ _ _ p => p.elim) (fun _ _ _ _ p => p.elim) (fun r env' v σ' F' H' p _ k' r' => hQ _ _ _ _ _ p (post_of k' (cels _ _ hS) r'))) rfl
    · have fin : ∀ {σ' : L2.St} {H' : Hp} {v : V} {u : Value}, Inv (cxOf CX0 P w K mg base N qual (defScope st) f cdv A outer s H E0) [] σ' H' s' → RelV v u → Q v H' → CE outer P w H s Q u s' :=
        fun {σ' H' v u} J r q => ⟨v, H', J.os, J.bare, J.base, J.hok, r, q⟩
      match fl, hs with
      | .ret u, ⟨v, σ', H', J, r, q⟩ => exact fin J r q
      | .next, ⟨σ', H', J, q⟩ => exact fin (v := V.non) (u := Value.none) J rfl q
      | .brk, ⟨_, _, _, q⟩ => exact q.elim
      | .cont, ⟨_, _, _, q⟩ => exact q.elim
end
end DL

namespace DL
variable {T : List (PySem.Addr × PySem.Str)} {Z : Zx T}
open PySem PySem.Spec PyProof.Rows L2
open Evl (Ex)
section
variable {X : Cx}
end
end DL

namespace DL
variable {T : List (PySem.Addr × PySem.Str)} {Z : Zx T}
open PySem PySem.Spec PyProof.Rows L2
open Evl (Ex)
section
variable {prog : Program} {w : World} {A : Around} {E : Value → Shared → Prop} {s : Shared}
end
section
variable {X : Cx} {es : List Expr} {pos : Pos}
end
end DL

namespace DL
variable {T : List (PySem.Addr × PySem.Str)} {Z : Zx T}
open PySem PySem.Spec PyProof.Rows L2
open Evl (Ex)

section
variable {M : Model} {A : Around} {E1 : Value → Shared → Prop} {s : Shared} {B : Heap} {env : Env} {outer : List Env} {L C a : Addr} {Zp : Obj → Prop} {Q : Unit → Shared → Prop}
end
/-- the heap without C -/
theorem less (h : Heap) (C : Addr) : ∃ G : Heap, (∀ b, b ≠ C → G.get? b = h.get? b) ∧ G.get? C = none := by
  obtain ⟨G, g1, g2⟩ := L2.restrict h fun b => !decide (b = C)
  exact ⟨G, fun b n => g1 b (by simp [n]), g2 C (by simp)⟩
section
variable {X : Cx} {pins : List (Addr × Obj)} {σ : L2.St} {H : Hp} {s : Shared}
end
section
variable {X : Cx} {elt tg iter : Expr} {ifs : List Expr} {scope : Scope} {own : List (Str × Nat)} {pos : Pos} {wi : DI} {t : CT} {c : DT} {we : DE} {m : Nat} {I S : Type} {dec : List SD → Option (I × S)} {emb : I → S → List SD} {qb : PyData → I → S → (I → S → Prop) → (PyData → I → S → Prop) → Prop}
end
section
variable {P : Program} {w : World} {K : PySem.W.Frag} {mg : Str → Option Value} {base : Heap}
end
end DL

namespace DL
open PySem PySem.Spec PyProof.Rows L2
section
variable {P : Program} {w : World} {κ : Type} [DecidableEq κ] {kd : KeyKind P w κ}
section
variable {A : Around} {E : Value → Shared → Prop} {s : Shared}
end
abbrev hashT (kd : KeyKind P w κ) (p : Addr × List κ) : Int := tupleKeyHash kd p.2
def rowT (kd : KeyKind P w κ) (p : Addr × List κ) : Int × Value := (hashT kd p, .ref p.1)
/-- a set of tuples: each by its place and its parts -/
structure TSet (kd : KeyKind P w κ) (h : Heap) (a : Addr) (L : List (Addr × List κ)) (es : Array (Int × Value)) (ep : Nat) (t : SetTable) : Prop where
  ob : ∃ o, h.get? a = some o ∧ o.ExactSet ∧ o.data = .set es ep t
  ent : es.toList = L.map (rowT kd)
  tab : TabOk t (L.map (hashT kd))
  once : (L.map (·.2)).Nodup
  tup : ∀ p ∈ L, IsTupleKey kd h p.2 p.1
  led : w.params.followText "set-order" = true ∨ t.led = true
  room : L.length * 5 < t.mask * 3
  few : L.length < 64
section
variable {A : Around} {E : Value → Shared → Prop} {s : Shared} {a : Addr} {L : List (Addr × List κ)} {es : Array (Int × Value)} {ep : Nat} {t : SetTable}
theorem ent_size (e : es.toList = L.map (rowT kd)) : es.size = L.length := by
  rw [← Array.length_toList, e, List.length_map]
theorem tab_fits {t : SetTable} {hs : List Int} {n : Nat} (T : t.dummies = #[]) (h1 : t.place.size = n) (h2 : n ≤ t.mask) : t.fits n = true := by
  unfold SetTable.fits SetTable.fill
  rw [T, h1]
  simp only [beq_self_eq_true, Bool.true_and, decide_eq_true_eq]
  exact h2
theorem TSet.fits (R : TSet kd s.heap a L es ep t) : t.fits es.size = true := by
  have z1 := R.tab.sz
  have z2 := R.room
  rw [List.length_map] at z1
  rw [ent_size R.ent]
  exact tab_fits (hs := []) R.tab.dm z1 (by omega)
theorem TSet.place (R : TSet kd s.heap a L es ep t) : t.place.toList.length = L.length := by
  have z := R.tab.sz
  rw [List.length_map] at z
  rw [Array.length_toList, z]
end
/-- each once -/
def d1 {α : Type} [DecidableEq α] (acc : List α) (k : α) : List α := if k ∈ acc then acc else k :: acc
section
variable {A : Around} {E : Value → Shared → Prop} {s : Shared}
end
end
section
variable {X : Cx} {T : List (PySem.Addr × PySem.Str)} {Z : Zx T}
variable {a : Expr} {wa : DE} {pos p p2 pos2 : Pos}
end
end DL

namespace DL
variable {T : List (PySem.Addr × PySem.Str)} {Z : Zx T}
open PySem PySem.Spec PyProof.Rows L2 PySem.W
open Evl (Ex)
section
variable {P : Program} {w : World} {A : Around} {E : Value → Shared → Prop} {s : Shared}
end
section
variable {X : Cx}
variable {a : Expr} {wa : DE} {p pos : Pos}
end
section
variable {X : Cx} {e e2 : Expr} {wi we : DE} {m : Nat} {pos : Pos}
end
end DL

namespace DL
variable {T : List (PySem.Addr × PySem.Str)} {Z : Zx T}
open PySem PySem.Spec PyProof.Rows L2 PySem.W
open Evl (Ex)
section
variable {P : Program} {w : World} {A : Around} {E : Value → Shared → Prop} {s : Shared} {a : Addr}
end
section
variable {X : Cx}
variable {a : Expr} {wa : DE} {p p2 pos pos2 : Pos}
end
end DL

namespace DL
variable {T : List (PySem.Addr × PySem.Str)} {Z : Zx T}
open PySem PySem.Spec PyProof.Rows L2 PySem.W
open Evl (Ex)
section
variable {X : Cx} {a b c : Expr} {was : DA} {m : Nat} {pos : Pos}
end
end DL

namespace DL
variable {T : List (PySem.Addr × PySem.Str)} {Z : Zx T}
open PySem PySem.Spec PyProof.Rows L2 PySem.W
open Evl (Ex)
inductive Kx where
  | it
  | ix (b : Kx) (i : Nat)
  | hd (b : Kx) (n : Nat)
  | two (a b : Kx)
def Kx.val : Kx → PyData → Option PyData
  | .it, d => some d
  | .ix b i, d => match b.val d with
    | some (.tuple ds) => ds[i]?
    | _ => none
  | .hd b n, d => match b.val d with
    | some (.tuple ds) => if ds.length ≤ 1000 then some (.tuple (ds.take n)) else none
    | _ => none
  | .two a b, d => match a.val d, b.val d with
    | some x, some y => some (.tuple [x, y])
    | _, _ => none
inductive KbE (x : Str) : Expr → Kx → Prop
  | it {p : Pos} : KbE x (.Name x p) .it
  | ix {e : Expr} {b : Kx} {i j : Nat} {p pos : Pos} : KbE x e b → i < 1000 → KbE x (.Subscript e (.Constant (.int (i : Int)) j p) pos) (.ix b i)
  | hd {e : Expr} {b : Kx} {n j : Nat} {p p2 pos : Pos} : KbE x e b → n < 1000 → KbE x (.Subscript e (.Slice none (some (.Constant (.int (n : Int)) j p)) none p2) pos) (.hd b n)
  | two {e f : Expr} {a b : Kx} {x1} {pos : Pos} : KbE x e a → KbE x f b → (∀ env, backTo pos (starEach [e, f] env) = [(false, eval e env), (false, eval f env)]) → KbE x (.Tuple [e, f] x1 pos) (.two a b)
/-- all is kept, the value reads as d -/
def KpR (d : PyData) (s : Shared) (v : Value) (s' : Shared) : Prop := ∃ h' tk, s' = { s with heap := h', toks := tk } ∧ (∀ b o, s.heap.get? b = some o → h'.get? b = some o) ∧ ∃ as, Reads h' v d as
theorem KpR.trans {d : PyData} {s s' s'' : Shared} {v : Value} (k : ∃ h' tk, s' = { s with heap := h', toks := tk } ∧ (∀ b o, s.heap.get? b = some o → h'.get? b = some o)) (r : KpR d s' v s'') : KpR d s v s'' := by
  obtain ⟨h', tk, rfl, k⟩ := k
  obtain ⟨h2, tk2, rfl, k2, r⟩ := r
  exact ⟨h2, tk2, rfl, fun b o e => k2 b o (k b o e), r⟩
theorem KpR.kp {d : PyData} {s s' : Shared} {v : Value} (r : KpR d s v s') : ∃ h' tk, s' = { s with heap := h', toks := tk } ∧ (∀ b o, s.heap.get? b = some o → h'.get? b = some o) := by
  obtain ⟨h2, tk2, rfl, k2, r⟩ := r
  exact ⟨h2, tk2, rfl, k2⟩
section
variable {P : Program} {w : World} {A : Around} {env : Env} {x : Str} {v : Value} {m : Str → Option Value}
end
end DL

namespace DL
variable {T : List (PySem.Addr × PySem.Str)} {Z : Zx T}
open PySem PySem.Spec PyProof.Rows L2 PySem.W
open Evl (Ex)
section
variable {X : Cx} {pins : List (Addr × Obj)} {σ : L2.St} {H : Hp} {s : Shared}
/-- what the making of a lambda does to the abstract heap -/
structure Grown (T : List (Addr × Str)) (H H1 : Hp) : Prop where
  sty : ∀ b o, H b = some o → Sty o (H1 b)
  tab : LamX.Tabs T H1
end
section
variable {K : PySem.W.Frag} {g : Gx Z} {F F' : Hp} {env : List SD} {σ : L2.St} {H H1 : Hp}
theorem Ok.grown (k : Ok K g F env σ H) (e : Grown T H H1) : Ok K g F env σ H1 where
  len := k.len
  fh := fun a o q => (e.sty a o (k.fh a o q)).same fun ps z => k.oldF.2 a ps (by rw [q, z])
  dat := k.dat
  cel := fun i p xs q => by
    obtain ⟨a, vs, h1, h2, h3, h4, h5⟩ := k.cel i p xs q
    exact ⟨a, vs, h1, h2, (e.sty _ _ h3).lst, h4, h5⟩
  sep := k.sep
  pin := k.pin
  frame := ⟨fun a o q n => (k.frame.stay a o q n).trans fun u hu => e.sty a u hu, e.tab⟩
  newF := k.newF
  oldF := k.oldF
  prot := fun a o q => by
    obtain ⟨h1, h2, h3⟩ := k.prot a o q
    exact ⟨(e.sty _ _ h1).same (g.pl a o q), h2, h3⟩
  dic := k.dic.keep (Ex.refl F) (fun _ _ _ z => z) fun a xs h n => ⟨n, (e.sty _ _ h).ext.trans h.symm⟩
theorem ResOk.grown {v : V} {r : SD} (k : Ok K g F env σ H) (e : Grown T H H1) (h : ResOk K g F env σ H v r) : ResOk K g F env σ H1 v r := by
  cases r with
  | un => exact h
  | dat d => exact h
  | dic kvs => exact h
  | cel b xs =>
    obtain ⟨a, us, h1, h2, h3, h4, h5, h6⟩ := h
    exact ⟨a, us, h1, h2, (e.sty _ _ h3).lst, h4, h5, h6⟩
end
end DL

namespace DL
variable {T : List (PySem.Addr × PySem.Str)} {Z : Zx T}
open PySem PySem.Spec PyProof.Rows L2 PySem.W
open Evl (Ex)
/-- the scope of a lambda of the one parameter x -/
structure LamK (scope : Scope) (x : Str) : Prop where
  kind : scope.kind = .function
  co : scope.isCoroutine = false
  gen : scope.isGenerator = false
  loc : scope.names.lookup x = some .local
  nocell : ∀ y ∈ scope.names, y.2 ≠ .cell
section
variable {P : Program} {w : World} {A : Around} {s : Shared}
end
section
variable {prog : Program} {w : World} {A : Around} {E : Value → Shared → Prop} {s : Shared}
end
end DL

namespace DL
variable {T : List (PySem.Addr × PySem.Str)} {Z : Zx T}
open PySem PySem.Spec PyProof.Rows L2 PySem.W
open Evl (Ex)
section
variable {X : Cx} {pins : List (Addr × Obj)} {σ : L2.St} {H : Hp} {s : Shared}
end
section
variable {X : Cx} {a : Expr} {wa : DE} {p pos lpos kpos : Pos} {params : Arguments} {body : Expr} {scope : Scope} {x : Str}
end
end DL

namespace DL
variable {T : List (PySem.Addr × PySem.Str)} {Z : Zx T}
open PySem PySem.Spec PyProof.Rows L2
open Evl (Ex)
/-- the defs that make lambdas, with the lambda's qualified name -/
class LamB (K : PySem.W.Frag) (base : Heap) (mg : Str → Option Value) (T : List (Addr × Str)) (lam : List (Str × Str)) : Prop where
  out : ∀ p ∈ lam, ∃ c P, PySem.W.tabIn K p.1 = some (c, P) ∧ LamX.TabB base mg c P ∧ (P, p.2) ∈ T
  uni : ∀ p ∈ T, ∀ q ∈ T, p.1 = q.1 → p.2 = q.2
section
variable {P : Program} {w : World} {K : PySem.W.Frag} {mg : Str → Option Value} {base : Heap}
end
end DL

namespace DL
variable {T : List (PySem.Addr × PySem.Str)} {Z : Zx T}
open PySem PySem.Spec PyProof.Rows L2
open Evl (Ex)
def tabsOf (K : PySem.W.Frag) (lam : List (Str × Str)) : List (Addr × Str) := lam.filterMap fun p => (PySem.W.tabIn K p.1).map fun z => (z.2, p.2)
def LamSays (lam : List (Str × Str)) (K : PySem.W.Frag) (h : Heap) : Prop :=
  (∀ p ∈ lam, ∃ c P, PySem.W.tabIn K p.1 = some (c, P) ∧ PySem.W.CodeHd h c P ∧ h.get? P = some { cls := .none, data := .fields #[] } ∧ K.lookup P = none) ∧ ∀ p ∈ tabsOf K lam, ∀ q ∈ tabsOf K lam, p.1 = q.1 → p.2 = q.2
theorem LamSays.keeps {lam : List (Str × Str)} {K : PySem.W.Frag} {h h' : Heap} (x : LamSays lam K h) (k : ∀ b o, h.get? b = some o → h'.get? b = some o) : LamSays lam K h' :=
  ⟨fun p hp => let ⟨c, P, h1, h2, h3, h4⟩ := x.1 p hp; ⟨c, P, h1, h2.keeps k, k _ _ h3, h4⟩, x.2⟩
section
variable {K : PySem.W.Frag} {lam : List (Str × Str)} {base h : Heap} {mg : Str → Option Value}
end
end DL

namespace DL
variable {T : List (PySem.Addr × PySem.Str)} {Z : Zx T}
open PySem PySem.Spec PyProof.Rows L2 PySem.W
open Evl (Ex)
abbrev KVM := List (PyData × PyData)
def isKy : PyData → Key → Bool
  | .int m, .inl n => decide (m = n)
  | .str x, .inr y => decide (x = y)
  | _, _ => false
theorem isKy_int {m n : Int} : isKy (.int m) (.inl n) = decide (m = n) := rfl
theorem isKy_str {x y : Str} : isKy (.str x) (.inr y) = decide (x = y) := rfl
def atM (ds : KVM) (k : Key) : Option PyData := (ds.find? fun p => isKy p.1 k).map (·.2)
def putM (ds : KVM) (k : Key) (d : PyData) : KVM := if (ds.any fun p => isKy p.1 k) = true then ds.map (fun p => if isKy p.1 k = true then (p.1, d) else p) else ds ++ [(keyD k, d)]
def mergeM : KVM → List (Key × PyData) → KVM
  | acc, [] => acc
  | acc, (k, d) :: r => mergeM (putM acc k d) r
section
variable {K : PySem.W.Frag} {F : Hp}
theorem isKy_i {n : Int} {k : Key} : isKy (.int n) k = decide ((Sum.inl n : Key) = k) := by
  cases k with
  | inl m =>
    rw [isKy_int]
    by_cases e : n = m
    · subst e; simp
    · rw [decide_eq_false e, decide_eq_false fun z => e (Sum.inl.inj z)]
  | inr y => rfl
theorem isKy_s {x : Str} {k : Key} : isKy (.str x) k = decide ((Sum.inr x : Key) = k) := by
  cases k with
  | inl m => rfl
  | inr y =>
    rw [isKy_str]
    by_cases e : x = y
    · subst e; simp
    · rw [decide_eq_false e, decide_eq_false fun z => e (Sum.inr.inj z)]
theorem DM.any (k : Key) : ∀ {vs : List (Key × V)} {ds : KVM}, DM K F vs ds → (vs.any fun kv => decide (kv.1 = k)) = ds.any fun p => isKy p.1 k
  | _, _, .nil => rfl
  | _, _, .int (n := n) _ b => by rw [List.any_cons, List.any_cons, DM.any k b, isKy_i]
  | _, _, .str (x := x) _ b => by rw [List.any_cons, List.any_cons, DM.any k b, isKy_s]
theorem DM.val (k : Key) : ∀ {vs : List (Key × V)} {ds : KVM}, DM K F vs ds → (atM ds k = none ∧ valV vs k = none) ∨ ∃ d v, atM ds k = some d ∧ valV vs k = some v ∧ DR K F v d
  | _, _, .nil => .inl ⟨rfl, rfl⟩
  | _, _, .int (n := n) (v := v) (d := d) (vs := vs) (ds := ds) a b => by
    by_cases e : (Sum.inl n : Key) = k
    · exact .inr ⟨d, v, by simp [atM, List.find?_cons, isKy_i, e], by simp [valV, List.find?_cons, e], a⟩
    · have x : atM ((.int n, d) :: ds) k = atM ds k := by simp [atM, List.find?_cons, isKy_i, e]
      have y : valV ((.inl n, v) :: vs) k = valV vs k := by simp [valV, List.find?_cons, e]
      rw [x, y]
      exact DM.val k b
  | _, _, .str (x := x) (v := v) (d := d) (vs := vs) (ds := ds) a b => by
    by_cases e : (Sum.inr x : Key) = k
    · exact .inr ⟨d, v, by simp [atM, List.find?_cons, isKy_s, e], by simp [valV, List.find?_cons, e], a⟩
    · have y1 : atM ((.str x, d) :: ds) k = atM ds k := by simp [atM, List.find?_cons, isKy_s, e]
      have y : valV ((.inr x, v) :: vs) k = valV vs k := by simp [valV, List.find?_cons, e]
      rw [y1, y]
      exact DM.val k b
theorem DM.snoc {k : Key} {v : V} {d : PyData} (r : DR K F v d) : ∀ {vs : List (Key × V)} {ds : KVM}, DM K F vs ds → DM K F (vs ++ [(k, v)]) (ds ++ [(keyD k, d)])
  | _, _, .nil => by cases k with
    | inl n => exact .int r .nil
    | inr x => exact .str r .nil
  | _, _, .int a b => .int a (DM.snoc r b)
  | _, _, .str a b => .str a (DM.snoc r b)
theorem DM.repl {k : Key} {v : V} {d : PyData} (r : DR K F v d) : ∀ {vs : List (Key × V)} {ds : KVM}, DM K F vs ds → DM K F (vs.map fun kv => if kv.1 = k then (kv.1, v) else kv) (ds.map fun p => if isKy p.1 k = true then (p.1, d) else p)
  | _, _, .nil => .nil
  | _, _, .int (n := n) a b => by
    rw [List.map_cons, List.map_cons]
    by_cases e : (Sum.inl n : Key) = k
    · rw [if_pos e, if_pos (by rw [isKy_i]; exact decide_eq_true e)]
      exact .int r (DM.repl r b)
    · rw [if_neg e, if_neg (by rw [isKy_i, decide_eq_false e]; simp)]
      exact .int a (DM.repl r b)
  | _, _, .str (x := x) a b => by
    rw [List.map_cons, List.map_cons]
    by_cases e : (Sum.inr x : Key) = k
    · rw [if_pos e, if_pos (by rw [isKy_s]; exact decide_eq_true e)]
      exact .str r (DM.repl r b)
    · rw [if_neg e, if_neg (by rw [isKy_s, decide_eq_false e]; simp)]
      exact .str a (DM.repl r b)
theorem DM.put {vs : List (Key × V)} {ds : KVM} (h : DM K F vs ds) (k : Key) {v : V} {d : PyData} (r : DR K F v d) : DM K F (putK vs k v) (putM ds k d) := by
  unfold putK putM
  rw [h.any k]
  split
  · exact h.repl r
  · exact h.snoc r
theorem DM.keys : ∀ {vs : List (Key × V)} {ds : KVM}, DM K F vs ds → DRs K F (vs.map fun p => kV p.1) (ds.map (·.1))
  | _, _, .nil => .nil
  | _, _, .int _ b => .cons (.int _) (DM.keys b)
  | _, _, .str _ b => .cons (.str _) (DM.keys b)
theorem DM.merge {ps : List (Key × PyData)} {us : List (Key × V)} (t : Paired (fun (p : Key × PyData) (u : Key × V) => p.1 = u.1 ∧ DR K F u.2 p.2) ps us) : ∀ {vs : List (Key × V)} {ds : KVM}, DM K F vs ds → DM K F (mergeK vs us) (mergeM ds ps) := by
  induction t with
  | nil => exact fun h => h
  | @cons p u ps us h t ih =>
    intro vs ds h2
    obtain ⟨k, d⟩ := p
    obtain ⟨k2, v⟩ := u
    obtain ⟨e, r⟩ := h
    dsimp only at e r
    subst e
    exact ih (h2.put k r)
end
/-- it is a dict: no row, no refusal -/
def isMap : KVM → Bool
  | (.none, _) :: _ => false
  | _ => true
theorem DR.inv_map {K : PySem.W.Frag} {F : Hp} {v : V} {ds : KVM} (h : DR K F v (.dict ds)) (hk : isMap ds = true) : ∃ a o vs, v = .ref a ∧ F a = some (.frz o (.dK vs)) ∧ DM K F vs ds := by
  cases h with
  | dct a b => exact ⟨_, _, _, rfl, a, b⟩
  | row _ _ => cases hk
  | exc _ _ => cases hk
  | opq _ _ => cases hk
def keyQ (y : PyData) (K : Key → Prop) : Prop := match kyOf y with
  | some k => K k
  | none => False
theorem keyQ_inv {y : PyData} {K : Key → Prop} (h : keyQ y K) : ∃ k, kyOf y = some k ∧ K k := by
  unfold keyQ at h
  split at h
  · exact ⟨_, ‹_›, h⟩
  · exact h.elim
def pickM (ds : KVM) (k : Key) (P : PyData → Prop) : Prop := match atM ds k with
  | some d => P d
  | none => False
theorem pickM_inv {ds : KVM} {k : Key} {P : PyData → Prop} (h : pickM ds k P) : ∃ d, atM ds k = some d ∧ P d := by
  unfold pickM at h
  split at h
  · exact ⟨_, ‹_›, h⟩
  · exact h.elim
def oIxM (x y : PyData) (P : PyData → Prop) : Prop := match x with
  | .dict ds => isMap ds = true ∧ keyQ y fun k => pickM ds k P
  | x => oIx x y P
section
variable {X : Cx} {K : PySem.W.Frag}
def rIxK : R2 := fun x y H Q => ∃ a v, x = .ref a ∧ DGet H a y (some v) ∧ Q v H
theorem ix_dK (hu : X.A.units + 1 < cLine) : IxR X rIxK := by
  intro value slice pins s σ H x y v u Q I rx ry h hs
  obtain ⟨a, r, rfl, g, q⟩ := h
  obtain rfl : v = Value.ref a := rx
  exact tail_any (dict_typeIs I g) PySem.F.slot_dict_getitem.lookup (d_getItem hu I g ry fun w' s' I' rw' => ⟨r, H, I', rw', q⟩) hs
theorem opd_ixM : OpD K (fun x y H Q => rIx K x y H Q ∨ rIxK x y H Q) oIxM := by
  intro T0 Z0 g F env σ H vx vy dx dy P Q k rx ry p q
  unfold oIxM at p
  split at p
  · rename_i ds
    obtain ⟨hm, p⟩ := p
    obtain ⟨kk, ek, p⟩ := keyQ_inv p
    obtain ⟨d, ed, p⟩ := pickM_inv p
    obtain ⟨a, o, vs, rfl, h1, h2⟩ := rx.inv_map hm
    obtain rfl := ky_val ek ry
    rcases h2.val kk with ⟨z, _⟩ | ⟨d', v, z1, z2, z3⟩
    · rw [ed] at z; cases z
    · rw [ed] at z1
      cases z1
      exact .inr ⟨a, v, rfl, .inl ⟨vs, kk, .inr ⟨o, k.fh _ _ h1⟩, rfl, z2.symm⟩, q _ _ F H p (Ex.refl F) k z3⟩
  · exact .inl (opd_ix T0 Z0 g F env σ H vx vy dx dy P Q k rx ry p q)
end
section
variable {X : Cx} {a b e : Expr} {es : List Expr} {wa wb we : DE} {was : DA} {pos p : Pos}
theorem dixM {k0 : Nat} (hr : Room k0 X.A) (ha : PE X a (liftE X.K Z wa)) (hb : PE X b (liftE X.K Z wb)) (hs : PlainIx b := by intro _ _; rfl) : PE X (.Subscript a b pos) (liftE X.K Z (dOp oIxM wa wb)) := dix (ixr_or ixr (ix_dK (by have := hr.u65; omega))) opd_ixM ha hb hs
end
section
variable {X : Cx} {a b e : Expr} {es : List Expr} {wa wb we : DE} {was : DA} {pos p : Pos} {K : PySem.W.Frag}
end
end DL

namespace DL
variable {T : List (PySem.Addr × PySem.Str)} {Z : Zx T}
open PySem PySem.Spec PyProof.Rows L2 PySem.W
open Evl (Ex)
section
variable {X : Cx} {o e f : Expr} {es : List Expr} {wo we wf : DE} {was : DA} {apos cpos pos p : Pos} {K : PySem.W.Frag}
theorem walkD_keys {bb : Bool} {F : Hp} {a : Addr} {o : Obj} {vs : List (Key × V)} {ds : KVM} (h : F a = some (.frz o (.dK vs))) (m : DM K F vs ds) : WalkD K bb F (Itk a o vs) (ds.map (·.1)) :=
  ⟨fun H => H a = some (.frz o (.dK vs)), fun i H x H' => H' = H ∧ ∃ k v, vs[i]? = some (k, v) ∧ x = kV k, by rw [List.length_map, ← m.length]; exact walk_keys (kvs := vs), fun H e => e _ _ h, fun i H x H' d _ e y => .inl ⟨y.1, by
    obtain ⟨k, v, h1, rfl⟩ := y.2
    obtain ⟨u, z1, z2⟩ := m.keys.get e
    rw [List.getElem?_map, h1] at z1
    cases z1
    exact z2⟩⟩
def iSeqM (K : PySem.W.Frag) (tl : TE) : TI := fun σ H R => tl σ H fun x H1 => ((∃ a, x = .ref a ∧ ((∃ xs, SqL K H1 a xs ∧ R (Itl K a) H1) ∨ ∃ xs, SqT K H1 a xs ∧ R (Itt K a) H1)) ∨ ∃ z, x = .str z ∧ R (Its z) H1) ∨ ∃ a o kvs, x = .ref a ∧ H1 a = some (.frz o (.dK kvs)) ∧ R (Itk a o kvs) H1
theorem pi_seqM {tg l : Expr} {tl : TE} (hl : PE X l tl) : PI X tg l (iSeqM X.K tl) := by
  refine ⟨fun pins s σ H R I h => thn (hl.run pins s σ H _ I h) fun v s1 ⟨x, H1, I1, r1, q1⟩ => ?_⟩
  rcases q1 with (⟨a, ea, q1⟩ | ⟨z, ez, q⟩) | ⟨a, o, kvs, ea, hd, q⟩
  · subst ea
    cases r1
    have fo : ∀ b ∈ [s1.heap.objs.size], FpOk X pins H1 b := fun b hb => by
      rw [List.mem_singleton.mp hb]
      exact I1.fpOk (Nat.le_refl _) (I1.hok.fresh (Nat.le_refl _))
    rcases q1 with ⟨xs, hq, q⟩ | ⟨xs, hq, q⟩
    · obtain ⟨its, rv, pl, hz⟩ := I1.list hq
      exact wpAny_pyIter_list pl.isList ⟨s1.heap.objs.size, [s1.heap.objs.size], _, _, H1, rfl, I1.kept (t' := s1.toks) (fun b o e => Heap.get?_push_of_some _ e), turn_list a _, ⟨_, Heap.get?_push_size _ rfl, rfl, rfl⟩, fo, q⟩
    · obtain ⟨its, rv, pl, hz⟩ := I1.tuple hq
      exact wpAny_pyIter_tuple (show s1.heap.IsTuple a its.toArray from pl) ⟨s1.heap.objs.size, [s1.heap.objs.size], _, _, H1, rfl, I1.kept (t' := s1.toks) (fun b o e => Heap.get?_push_of_some _ e), turn_tuple a _, ⟨_, Heap.get?_push_size _ rfl, rfl, rfl⟩, fo, q⟩
  · subst ez
    obtain ⟨t, rfl⟩ := r1
    cases ha : z.cps.all (· < 128)
    · exact wpAny_pyIter_wide ha (pi_one (tk := s1.toks) I1 _ (turn_str _ z t "str_iterator" (.inr rfl)) ⟨_, Heap.get?_push_size _ rfl, rfl, rfl⟩ q)
    · exact wpAny_pyIter_ascii ha (pi_one (tk := s1.toks) I1 _ (turn_str _ z t "str_ascii_iterator" (.inl rfl)) ⟨_, Heap.get?_push_size _ rfl, rfl, rfl⟩ q)
  · subst ea
    cases r1
    obtain ⟨hs, hgd, hx, es, ep, vs, hdt, hsz, kv, hm⟩ := I1.frzK hd
    refine iter_keys hs hgd hx hdt (pi_one (tk := s1.toks) I1 _ (turn_keys _ hdt) ⟨_, Heap.get?_push_size _ rfl, rfl, ?_⟩ q)
    rw [hsz] <;> rfl
/-- a list's, a tuple's items, a text's signs, a dict's keys -/
def itemsM (d : PyData) (K : List PyData → Prop) : Prop := match d with
  | .dict ds => isMap ds = true ∧ At (ds.map (·.1)) K
  | d => itemsQ d K
theorem iseqM {tg : Expr} {bb : Bool} (he : PE X e (liftE X.K Z we)) : PI X tg e (liftI X.K Z bb (dItF itemsM we)) := PI.of (pi_seqM he) fun σ H R ⟨g, F, env, P, k, w, q⟩ => ⟨g, F, env, _, k, w, fun d env1 v F1 H1 p e1 k1 r1 => by
  unfold itemsM at p
  split at p
  · obtain ⟨hm, p⟩ := p
    obtain ⟨a, o, vs, rfl, h1, h2⟩ := r1.inv_map hm
    exact .inr ⟨a, o, vs, rfl, k1.fh _ _ h1, q _ env1 _ F1 H1 p.out e1 k1 (walkD_keys h1 h2)⟩
  · refine .inl ?_
    unfold itemsQ at p
    split at p
    · obtain ⟨a, xs, rfl, h1, h2⟩ := r1.inv_lst
      exact .inl ⟨a, rfl, .inl ⟨xs, (h1.mono k1.fh).sq, q _ env1 _ F1 H1 p.out e1 k1 (walkD_list h1 h2)⟩⟩
    · obtain ⟨a, xs, rfl, h1, h2⟩ := r1.inv_tup
      exact .inl ⟨a, rfl, .inr ⟨xs, Evl.ex_t k1.fh h1, q _ env1 _ F1 H1 p.out e1 k1 (walkD_tup h1 h2)⟩⟩
    · cases r1.inv_str
      exact .inr ⟨_, rfl, q _ env1 _ F1 H1 p.out e1 k1 (walkD_str _)⟩
    · exact p.elim⟩
def prOf : PyData → Option (Key × PyData)
  | .tuple [k, v] => (kyOf k).map fun k => (k, v)
  | _ => none
def prsOf : List PyData → Option (List (Key × PyData))
  | [] => some []
  | x :: r => match prOf x, prsOf r with
    | some p, some ps => some (p :: ps)
    | _, _ => none
def dictQ (d : PyData) (P : KVM → Prop) : Prop := match d with
  | .list xs => (match prsOf xs with | some ps => P (mergeM [] ps) | none => False)
  | .tuple xs => (match prsOf xs with | some ps => P (mergeM [] ps) | none => False)
  | _ => False
theorem prs_rel {F H : Hp} (ex : Ex F H) : ∀ {vs : List V} {xs : List PyData} {ps : List (Key × PyData)}, DRs K F vs xs → prsOf xs = some ps → ∃ (as : List Addr) (kvs : List (Key × V)), vs = as.map V.ref ∧ Paired (fun p (kv : Key × V) => SqT K H p [kV kv.1, kv.2]) as kvs ∧ Paired (fun (p : Key × PyData) (u : Key × V) => p.1 = u.1 ∧ DR K F u.2 p.2) ps kvs
  | _, _, _, .nil, h => by cases h; exact ⟨[], [], rfl, .nil, .nil⟩
  | _, x :: r, _, .cons a b, h => by
    unfold prsOf at h
    split at h
    · rename_i p ps e1 e2
      cases h
      obtain ⟨as, kvs, rfl, h1, h2⟩ := prs_rel ex b e2
      unfold prOf at e1
      split at e1
      · rename_i k v
        obtain ⟨kk, ek, ep⟩ := Option.map_eq_some_iff.mp e1
        subst ep
        obtain ⟨p0, us, rfl, t1, t2⟩ := a.inv_tup
        obtain ⟨u1, u2, rfl, r1, r2⟩ := t2.inv2
        obtain rfl := ky_val ek r1
        exact ⟨p0 :: as, (kk, u2) :: kvs, rfl, .cons (Evl.ex_t ex t1) h1, .cons ⟨rfl, r2⟩ h2⟩
      · cases e1
    · cases h
theorem pairs_ofT {pins : List (Addr × Obj)} {σ : L2.St} {H : Hp} {s : Shared} (I : Inv X pins σ H s) : ∀ {ps : List Addr} {kvs : List (Key × V)}, Paired (fun p kv => SqT X.K H p [kV kv.1, kv.2]) ps kvs →
    ∃ (prs : List (Key × Value)) (ws : List (Value × Value)), KV kvs prs ∧ prs.length = ps.length ∧ ws.length = ps.length ∧ ∀ (j : Nat) (k v : Value), ws[j]? = some (k, v) → ∃ (b : Addr) (kk : Key), ps[j]? = some b ∧ IsTup s.heap b #[k, v] ∧ prs[j]? = some (kk, v) ∧ keyIs kk k = true
  | _, _, .nil => ⟨[], [], .nil, rfl, rfl, fun j k v e => by simp at e⟩
  | _, _, .cons (a := p) (b := kv) h t => by
    obtain ⟨prs, ws, r, hl, hw, hp⟩ := pairs_ofT I t
    obtain ⟨its, rv, ht, _⟩ := I.tuple h
    obtain ⟨u, y, ei, ru, ry⟩ := vals2 rv
    subst ei
    refine ⟨(kv.1, y) :: prs, (u, y) :: ws, .cons ⟨rfl, ry⟩ r, by rw [List.length_cons, List.length_cons, hl], by rw [List.length_cons, List.length_cons, hw], fun j k v e => ?_⟩
    cases j with
    | zero =>
      have e' : (u, y) = (k, v) := Option.some.inj e
      cases e'
      exact ⟨p, kv.1, rfl, ht, rfl, kV_is (P := X.prog) (w := X.w) ru⟩
    | succ j =>
      obtain ⟨b, kk, e1, e2, e3, e4⟩ := hp j k v (by simpa using e)
      exact ⟨b, kk, by simpa using e1, e2, by simpa using e3, e4⟩
def rDictT (K : PySem.W.Frag) : List V → Hp → VK → Prop := fun xs H Q => ∃ (a : Addr) (ps : List Addr) (kvs : List (Key × V)), xs = [.ref a] ∧ (∃ o, H a = some (.frz o (.tup (ps.map V.ref))) ∧ PlT o ∨ ∃ (its : Array Value) (n : Nat), K.lookup a = some o ∧ PlT o ∧ o.data = .seq its n ∧ its.size ≤ sizeLine ∧ Vals (ps.map V.ref) its.toList) ∧ Paired (fun p kv => SqT K H p [kV kv.1, kv.2]) ps kvs ∧
    ∀ p, H p = none → Q (.ref p) (upd H p (.dK (mergeK [] kvs)))
theorem call_dictT (hcalm : X.calm = true) : CallR X (.type "dict") (rDictT X.K) := by
  intro pins s σ H xs us Q I r q
  obtain ⟨a, ps, kvs, ex, hq, hp, q⟩ := q
  subst ex
  obtain ⟨u, eu, rx⟩ := vals1 r
  subst eu
  cases rx
  obtain ⟨its, o, n, ho, hc, hd, hdat, rv, hz⟩ : ∃ (its : List Value) (o : Obj) (n : Nat), s.heap.get? a = some o ∧ o.cls = .type "tuple" ∧ o.dict = none ∧ o.data = .seq its.toArray n ∧ Vals (ps.map V.ref) its ∧ its.length ≤ sizeLine := by
    obtain ⟨o, ⟨h, pl⟩ | ⟨its, n, h1, h2, h3, h4, h5⟩⟩ := hq
    · obtain ⟨ho, hz, its, rv, o', ho', hc, n, hd⟩ := (show ObjOk X.prog X.w H s.heap a (.frz o (.tup (ps.map V.ref))) from I.hok a _ h)
      rw [ho] at ho'
      cases ho'
      exact ⟨its, o, n, ho, pl.1, pl.2, hd, rv, by rw [← rv.length]; exact hz⟩
    · exact ⟨its.toList, o, n, I.kIn a _ h1, h2.1, h2.2, by simpa using h3, h5, by simpa using h4⟩
  have ei := refs_at rv
  subst ei
  rw [List.length_map] at hz
  obtain ⟨prs, ws, rel, hl, hw, hpr⟩ := pairs_ofT I hp
  have at_ : ∀ (j : Nat) (k v : Value), ws[j]? = some (k, v) → (ps.map Value.ref).toArray[j]? = some (.ref (ps.getD j 0)) ∧ PairAt s.heap (ps.getD j 0) k v := fun j k v e => by
    obtain ⟨b, kk, e1, e2, e3, e4⟩ := hpr j k v e
    have eb : ps.getD j 0 = b := by rw [List.getD_eq_getElem?_getD, e1]; rfl
    rw [eb]
    exact ⟨by simp [e1], .inl e2⟩
  refine PySem.call_dict_pairs (knd := mixKind X.prog X.w) (kvs := prs) (PairArg.tuple a (ps.map Value.ref).toArray (fun j => ps.getD j 0) ws) (I.ok.hd hcalm) ⟨⟨o, n, ho, hc, hd, hdat⟩, by simp [hw], at_⟩ ⟨hl.trans hw.symm, fun j k v e => ?_⟩ (by rw [hw]; exact hz) fun h' tk hd' k => ?_
  · obtain ⟨b, kk, e1, e2, e3, e4⟩ := hpr j k v e
    exact ⟨kk, e3, e4⟩
  · have hm : (s.heap.objs.size == sysModules) = false := beq_eq_false_iff_ne.mpr (Nat.ne_of_gt I.big)
    have hlen : (mergeK [] kvs).length ≤ sizeLine := by
      refine Nat.le_trans (length_mergeK kvs []) ?_
      rw [List.length_nil, Nat.zero_add, rel.length, hl]
      exact hz
    exact ⟨.ref s.heap.objs.size, upd H s.heap.objs.size (.dK (mergeK [] kvs)), I.laid (t' := tk) (fun b o e => k b o (by simp) e) (Nat.le_refl _) (show ObjOk X.prog X.w _ _ _ (.dK (mergeK [] kvs)) from ⟨hlen, hm, merged [] prs, KV.merge rel .nil, hd'⟩), rfl, q _ (I.hok.fresh (Nat.le_refl _))⟩
end
end DL

namespace DL
variable {T : List (PySem.Addr × PySem.Str)} {Z : Zx T}
open PySem PySem.Spec PyProof.Rows L2 PySem.W
open Evl (Ex)
theorem codeO_kk {P : Program} {w : World} {a : Addr} {vs : List (Key × V)} {q : Str} : KkE P w a vs ≠ LamX.CodeO a q := fun z => by
  unfold KkE LamX.CodeO at z
  injection z with z
  have e : (({ objs := Array.replicate a { cls := .none, data := .plain } } : Heap).push { cls := .none, data := .fields #[.none, .str q 0] }).get? a = some { cls := .none, data := .fields #[.none, .str q 0] } := by
    have := Heap.get?_push_size { objs := Array.replicate a { cls := .none, data := .plain } } (o := { cls := .none, data := .fields #[.none, .str q 0] }) rfl
    simpa using this
  have y := (congrFun z (({ objs := Array.replicate a { cls := .none, data := .plain } } : Heap).push { cls := .none, data := .fields #[.none, .str q 0] })).mpr ⟨_, _, 0, e, rfl, rfl⟩
  obtain ⟨_, _, us, _, o, es, ep, e1, _, e2, _⟩ := y
  rw [e] at e1
  cases e1
  cases e2
theorem codeO_ls {a : Addr} {vs : List V} {q : Str} : LsE a vs ≠ LamX.CodeO a q := fun z => by
  unfold LsE LamX.CodeO at z
  injection z with z
  have e : (({ objs := Array.replicate a { cls := .none, data := .plain } } : Heap).push { cls := .none, data := .fields #[.none, .str q 0] }).get? a = some { cls := .none, data := .fields #[.none, .str q 0] } := by
    have := Heap.get?_push_size { objs := Array.replicate a { cls := .none, data := .plain } } (o := { cls := .none, data := .fields #[.none, .str q 0] }) rfl
    simpa using this
  have y := (congrFun z (({ objs := Array.replicate a { cls := .none, data := .plain } } : Heap).push { cls := .none, data := .fields #[.none, .str q 0] })).mpr ⟨_, _, 0, e, rfl, rfl⟩
  obtain ⟨_, its, n, _, e1⟩ := y
  rw [e] at e1
  cases e1
theorem kk_ok {P : Program} {w : World} {H H' : Hp} {h : Heap} {a : Addr} {vs : List (Key × V)} (x : ObjOk P w H h a (.dK vs)) : ObjOk P w H' h a (KkE P w a vs) := by
  obtain ⟨z1, z2, us, z3, z4⟩ := x
  refine ⟨⟨z1, z2, us, z3, z4⟩, ?_, fun h1 h2 ⟨y1, y2, ws, y3, y4⟩ k => ⟨y1, y2, ws, y3, y4.at k⟩⟩
  obtain ⟨o, es, ep, e, _⟩ := z4
  exact ⟨o, e⟩
theorem ls_ok {P : Program} {w : World} {H H' : Hp} {h : Heap} {a : Addr} {vs : List V} (x : ObjOk P w H h a (.lst vs)) : ObjOk P w H' h a (LsE a vs) := by
  obtain ⟨z1, its, n, z2, z3⟩ := x
  exact ⟨⟨z1, its, n, z2, z3⟩, ⟨_, z3⟩, fun h1 h2 ⟨y1, us, m, y2, y3⟩ k => ⟨y1, us, m, y2, k _ y3⟩⟩
/-- the own thing at x is told as it is; a dict is known -/
def ToldO (P : Program) (w : World) (od : Addr → Obj) (x : Addr) (o o' : HO) : Prop := (∃ vs, o = KkE P w x vs ∧ o' = .frz (od x) (.dK vs)) ∨ ∃ vs, o = LsE x vs ∧ o' = .lst vs
def RcO (P : Program) (w : World) (od : Addr → Obj) (H H' : Hp) : Prop := ∀ x, H' x = H x ∨ ∃ o o', H x = some o ∧ H' x = some o' ∧ ToldO P w od x o o'
section
variable {X : Cx} {pins : List (Addr × Obj)} {σ : L2.St} {H H' : Hp} {s : Shared} {od : Addr → Obj}
theorem RcO.none (r : RcO X.prog X.w od H H') {x : Addr} : H' x = Option.none ↔ H x = Option.none := by
  rcases r x with e | ⟨o, o', e1, e2, _⟩
  · rw [e]
  · rw [e1, e2]; simp
theorem RcO.own (r : RcO X.prog X.w od H H') {x : Addr} {o : HO} (n1 : ∀ φ, o ≠ .ext φ) (n2 : ∀ ob u, o ≠ .frz ob u) (n3 : ∀ vs, o ≠ .lst vs) : H' x = some o ↔ H x = some o := by
  rcases r x with e | ⟨p, p', e1, e2, t⟩
  · rw [e]
  · rw [e1, e2]
    rcases t with ⟨vs, rfl, rfl⟩ | ⟨vs, rfl, rfl⟩
    · exact ⟨fun z => absurd (Option.some.inj z).symm (n2 _ _), fun z => absurd (Option.some.inj z).symm (n1 _)⟩
    · exact ⟨fun z => absurd (Option.some.inj z).symm (n3 _), fun z => absurd (Option.some.inj z).symm (n1 _)⟩
theorem _root_.L2.Inv.told (I : Inv X pins σ H s) (r : RcO X.prog X.w od H H') (ho : ∀ x ob, s.heap.get? x = some ob → od x = ob) : Inv X pins σ H' s where
  ok := I.ok
  os := I.os
  bare := I.bare
  base := ⟨I.base.keep, I.base.slot, fun b o e1 e2 e3 => r.none.mpr (I.base.free b o e1 e2 e3), I.base.there, fun b xs e => (r.own (fun _ z => by cases z) (fun _ _ z => by cases z) (fun _ z => by cases z)).mpr (I.base.tups b xs e),
    (fun b o u e => by
      have z := I.base.frzs b o u e
      rcases r b with y | ⟨p, p', e1, e2, t⟩
      · rw [y]; exact z
      · rw [z] at e1
        cases e1
        rcases t with ⟨vs, t, _⟩ | ⟨vs, t, _⟩ <;> cases t),
    fun b ps e => by
      obtain ⟨more, z⟩ := I.base.tbls b ps e
      exact ⟨more, (r.own (fun _ z => by cases z) (fun _ _ z => by cases z) (fun _ z => by cases z)).mpr z⟩⟩
  loc := I.loc
  cell := I.cell
  free := r.none.mpr I.free
  freeC := fun x c e => r.none.mpr (I.freeC x c e)
  pin := fun p hp => let ⟨z1, z2, z3⟩ := I.pin p hp; ⟨z1, r.none.mpr z2, z3⟩
  hok := fun a o e => by
    rcases r a with y | ⟨p, p', e1, e2, t⟩
    · rw [y] at e
      exact (I.hok a o e).stay (fun _ _ _ q => q) (fun b q => (r.own (fun _ z => by cases z) (fun _ _ z => by cases z) (fun _ z => by cases z)).mpr q) fun b xs q => (r.own (fun _ z => by cases z) (fun _ _ z => by cases z) (fun _ z => by cases z)).mpr q
    · rw [e2] at e
      cases e
      have x := I.hok a _ e1
      rcases t with ⟨vs, rfl, rfl⟩ | ⟨vs, rfl, rfl⟩
      · obtain ⟨⟨z1, z2, us, z3, z4⟩, ⟨ob, eo⟩, _⟩ := x
        refine ⟨by rw [ho a ob eo]; exact eo, z1, z2, us, z3, z4⟩
      · exact x.1
  len := I.len
theorem _root_.L2.Inv.untold (I : Inv X pins σ H' s) (r : RcO X.prog X.w od H H') (nf : ∀ b o u, X.H_0 b = some (.frz o u) → H b = H' b) : Inv X pins σ H s where
  ok := I.ok
  os := I.os
  bare := I.bare
  base := ⟨I.base.keep, I.base.slot, fun b o e1 e2 e3 => r.none.mp (I.base.free b o e1 e2 e3), I.base.there, fun b xs e => (r.own (fun _ z => by cases z) (fun _ _ z => by cases z) (fun _ z => by cases z)).mp (I.base.tups b xs e),
    fun b o u e => by rw [nf b o u e]; exact I.base.frzs b o u e,
    fun b ps e => by
      obtain ⟨more, z⟩ := I.base.tbls b ps e
      exact ⟨more, (r.own (fun _ z => by cases z) (fun _ _ z => by cases z) (fun _ z => by cases z)).mp z⟩⟩
  loc := I.loc
  cell := I.cell
  free := r.none.mp I.free
  freeC := fun x c e => r.none.mp (I.freeC x c e)
  pin := fun p hp => let ⟨z1, z2, z3⟩ := I.pin p hp; ⟨z1, r.none.mp z2, z3⟩
  hok := fun a o e => by
    rcases r a with y | ⟨p, p', e1, e2, t⟩
    · rw [← y] at e
      exact (I.hok a o e).stay (fun _ _ _ q => q) (fun b q => (r.own (fun _ z => by cases z) (fun _ _ z => by cases z) (fun _ z => by cases z)).mp q) fun b xs q => (r.own (fun _ z => by cases z) (fun _ _ z => by cases z) (fun _ z => by cases z)).mp q
    · rw [e1] at e
      cases e
      have x := I.hok a _ e2
      rcases t with ⟨vs, rfl, rfl⟩ | ⟨vs, rfl, rfl⟩
      · exact kk_ok (H := H') x.2
      · exact ls_ok (H := H') x
  len := I.len
/-- an expression, one's own things told as what they are meanwhile -/
theorem PE.rc {e : Expr} {t : TE} (h : PE X e t) : PE X e (fun σ H Q => ∃ told : (Addr → Obj) → Hp, ∀ od, RcO X.prog X.w od H (told od) ∧ t σ (told od) fun v H1 => ∃ H2, RcO X.prog X.w od H2 H1 ∧ (∀ x, H2 x = H1 x ∨ ∃ φ, H x = some (.ext φ)) ∧ Q v H2) := ⟨fun pins s σ H Q I ⟨told, hw⟩ => by
  obtain ⟨r, w⟩ := hw fun x => (s.heap.get? x).getD { cls := .none, data := .plain }
  refine thn (h.run pins s σ _ _ (I.told r fun x ob e => by rw [e]; rfl) w) fun v s1 ⟨x, H1, I1, rv, H2, r2, nf, q⟩ => ⟨x, H2, I1.untold r2 fun b o u e => ?_, rv, q⟩
  rcases nf b with z | ⟨φ, z⟩
  · exact z
  · have := I.base.frzs b o u e
    rw [z] at this
    cases this⟩
theorem PT.rc {e : Expr} {t : TT} (h : PT X e t) : PT X e (fun σ H Q => ∃ told : (Addr → Obj) → Hp, ∀ od, RcO X.prog X.w od H (told od) ∧ t σ (told od) fun v H1 => ∃ H2, RcO X.prog X.w od H2 H1 ∧ (∀ x, H2 x = H1 x ∨ ∃ φ, H x = some (.ext φ)) ∧ Q v H2) := ⟨fun pins s σ H Q I ⟨told, hw⟩ => by
  obtain ⟨r, w⟩ := hw fun x => (s.heap.get? x).getD { cls := .none, data := .plain }
  refine thn (h.run pins s σ _ _ (I.told r fun x ob e => by rw [e]; rfl) w) fun v s1 ⟨H1, I1, H2, r2, nf, q⟩ => ⟨H2, I1.untold r2 fun b o u e => ?_, q⟩
  rcases nf b with z | ⟨φ, z⟩
  · exact z
  · have := I.base.frzs b o u e
    rw [z] at this
    cases this⟩
/-- statements, one's own things told from here on -/
theorem PSs.rc {sts : List Stmt} {t : TS} (h : PSs X sts t) : PSs X sts (fun D σ H => ∃ told : (Addr → Obj) → Hp, ∀ od, RcO X.prog X.w od H (told od) ∧ t D σ (told od)) := ⟨fun pins s σ H D I ⟨told, hw⟩ => by
  obtain ⟨r, w⟩ := hw fun x => (s.heap.get? x).getD { cls := .none, data := .plain }
  exact h.run pins s σ _ _ (I.told r fun x ob e => by rw [e]; rfl) w⟩
end
end DL

namespace DL
variable {T : List (PySem.Addr × PySem.Str)} {Z : Zx T}
open PySem PySem.Spec PyProof.Rows L2 PySem.W
open Evl (Ex)
section
variable {X : Cx} {pins : List (Addr × Obj)} {σ : L2.St} {H : Hp} {s : Shared} {a : Addr} {vs : List (Key × V)}
theorem _root_.L2.Inv.toK (I : Inv X pins σ H s) (e : H a = some (KkE X.prog X.w a vs)) : Inv X pins σ (upd H a (.dK vs)) s := by
  obtain ⟨⟨z1, z2, us, z3, z4⟩, he, _⟩ := I.hok a _ e
  exact d_write (t' := s.toks) I (by rw [e]; exact True.intro) ⟨rfl, fun _ _ => rfl⟩ he ⟨z1, z2, us, z3, z4⟩
theorem _root_.L2.Inv.ofK (I : Inv X pins σ H s) (e : H a = some (.dK vs)) : Inv X pins σ (upd H a (KkE X.prog X.w a vs)) s := by
  have x := I.hok a _ e
  have x2 : ObjOk X.prog X.w (upd H a (KkE X.prog X.w a vs)) s.heap a (KkE X.prog X.w a vs) := kk_ok (H := H) x
  exact d_write (t' := s.toks) I (by rw [e]; exact True.intro) ⟨rfl, fun _ _ => rfl⟩ x2.2.1 x2
end
section
variable {K : PySem.W.Frag} {g : Gx Z} {F : Hp} {env : List SD} {σ : L2.St} {H : Hp}
theorem Ok.kkAt (k : Ok K g F env σ H) {i : Nat} {ds : KVM} (he : env[i]? = some (.dic (.kk ds))) : ∃ a vs, σ[i]? = some (some (.ref a)) ∧ F a = none ∧ H a = some (KkE Z.P Z.w a vs) ∧ DM K F vs ds := by
  obtain ⟨B, db⟩ := k.dic
  obtain ⟨a, h1, h2⟩ := db.at_ i _ he
  obtain ⟨_, vs, h3, h4⟩ := h2.rel
  exact ⟨a, vs, h1, (h2.out a List.mem_cons_self).1, h3, h4⟩
theorem Ok.newKk (k : Ok K g F env σ H) {i : Nat} {p : Addr} {vs : List (Key × V)} {ds : KVM} (hp : H p = none) (np : NoPar env i) (m : DM K F vs ds) : Ok K g F (env.set i (.dic (.kk ds))) (σ.set i (some (.ref p))) (upd H p (KkE Z.P Z.w p vs)) :=
  k.newW hp np ⟨rfl, vs, upd_same, m⟩
theorem Ok.writeKk (k : Ok K g F env σ H) {i : Nat} {ds ds' : KVM} {a : Addr} {vs vs' : List (Key × V)} (he : env[i]? = some (.dic (.kk ds))) (hs : σ[i]? = some (some (.ref a))) (hH : H a = some (KkE Z.P Z.w a vs)) (r : DM K F vs' ds') :
    Ok K g F (env.set i (.dic (.kk ds'))) σ (upd H a (KkE Z.P Z.w a vs')) := by
  obtain ⟨B, db⟩ := k.dic
  obtain ⟨f1, f2, f3, _⟩ := db.there he hs List.mem_cons_self
  refine k.writeW db he hs List.mem_cons_self hH (fun q => codeO_kk) ⟨⟨rfl, vs', upd_same, r⟩, fun x hx => ?_⟩ (fun y hy => by simp at hy)
  rw [List.mem_singleton.mp hx]
  exact ⟨f1, f2, f3, _, upd_same⟩
/-- such a dict becomes a datum -/
theorem Ok.freezeKk (k : Ok K g F env σ H) {i : Nat} {ds : KVM} {a : Addr} {vs : List (Key × V)} (he : env[i]? = some (.dic (.kk ds))) (hs : σ[i]? = some (some (.ref a))) (hH : H a = some (KkE Z.P Z.w a vs)) (r : DM K F vs ds) (ob : Obj) :
    Ex F (upd F a (.frz ob (.dK vs))) ∧ Ok K g (upd F a (.frz ob (.dK vs))) (env.set i (.dat (.dict ds))) σ (upd H a (.frz ob (.dK vs))) := by
  obtain ⟨B, db⟩ := k.dic
  obtain ⟨f1, f2, f3, _⟩ := db.there he hs List.mem_cons_self
  have ex : Ex F (upd F a (.frz ob (.dK vs))) := Ex.new f1
  have ne : ∀ {b : Addr} {us : List V}, H b = some (.lst us) → b ≠ a := fun {b us} e z => by subst z; rw [hH] at e; cases e
  have back : ∀ {l : Nat} {z : Own}, (env.set i (.dat (.dict ds)))[l]? = some (.dic z) → i ≠ l ∧ env[l]? = some (.dic z) := fun {l z} e => by
    rcases get_set e with ⟨_, z⟩ | ⟨n, z⟩
    · cases z
    · exact ⟨n, z⟩
  refine ⟨ex, by simp [k.len], fun b u q => ?_, fun j e hj => ?_, fun j q us hj => ?_, fun j l q r us ws c z1 z2 z3 z4 => ?_, fun j b e => ?_, k.frame.putO hH (fun _ z => by cases z) (fun _ => codeO_kk) (fun o e _ => by rw [f2] at e; cases e), fun b u q => ?_, k.oldF.new f1 (fun _ z => by cases z), fun b u e => ?_, B, fun j w e => ?_, fun j l w1 w2 b c e1 e2 h1 h2 n => ?_⟩
  · by_cases z : b = a
    · subst z
      rw [upd_same] at q ⊢
      exact q
    · rw [upd_ne z] at q ⊢
      exact k.fh b u q
  · rcases get_set hj with ⟨rfl, q⟩ | ⟨n, q⟩
    · cases q
      exact ⟨_, hs, .dct upd_same (r.mono ex)⟩
    · obtain ⟨v, z1, z2⟩ := k.dat j e q
      exact ⟨v, z1, z2.mono ex⟩
  · rcases get_set hj with ⟨_, q⟩ | ⟨n, q⟩
    · cases q
    · obtain ⟨b, ws, z1, z2, z3, z4, z5⟩ := k.cel j _ us q
      exact ⟨b, ws, z1, by rw [upd_ne (ne z3)]; exact z2, by rw [upd_ne (ne z3)]; exact z3, z4.mono ex, z5⟩
  · rcases get_set z1 with ⟨_, e⟩ | ⟨n1, e1⟩
    · cases e
    rcases get_set z2 with ⟨_, e⟩ | ⟨n2, e2⟩
    · cases e
    exact k.sep j l q r us ws c e1 e2 z3 z4
  · obtain ⟨ys, q⟩ := k.pin j b e
    have n : i ≠ j := fun z => by subst z; rw [he] at q; cases q
    exact ⟨ys, by rw [set_ne n]; exact q⟩
  · by_cases z : b = a
    · subst z
      exact .inr f2
    · rw [upd_ne z] at q
      exact k.newF b u q
  · obtain ⟨z1, z2, z3⟩ := k.prot b u e
    have nb : b ≠ a := fun z => by subst z; rw [f3] at e; cases e
    refine ⟨by rw [upd_ne nb]; exact z1, by rw [upd_ne nb]; exact z2, fun j q us hj => ?_⟩
    rcases get_set hj with ⟨_, z⟩ | ⟨_, z⟩
    · cases z
    · exact z3 j q us z
  · obtain ⟨n, e⟩ := back e
    obtain ⟨b, z1, z2⟩ := db.at_ j w e
    have sep := db.sep j i w (.kk ds) b a e he z1 hs fun q => n q.symm
    have kp : ∀ y ∈ b :: B j, y ≠ a := fun y hy q => sep y hy (q ▸ List.mem_cons_self)
    refine ⟨b, z1, z2.rel.keep ex fun y hy => upd_ne (kp y hy), fun y hy => ?_⟩
    obtain ⟨y1, y2, y3, y4⟩ := z2.out y hy
    exact ⟨by rw [upd_ne (kp y hy)]; exact y1, y2, y3, by rw [upd_ne (kp y hy)]; exact y4⟩
  · exact db.sep j l w1 w2 b c (back e1).2 (back e2).2 h1 h2 n
end
section
variable {X : Cx} {e b : Expr} {es : List Expr} {we wb : DE} {was : DA} {m : Nat} {p pos : Pos} {sts : List Stmt}
def rSetKk (P : Program) (w : World) : L2.TSet := fun o i v H Q => ∃ (a : Addr) (vs : List (Key × V)) (k : Key), o = .ref a ∧ i = kV k ∧ H a = some (KkE P w a vs) ∧ vs.length < sizeLine ∧ Q (upd H a (KkE P w a (putK vs k v)))
theorem set_kk (hu : X.A.units + 1 < cLine) : PSet X (rSetKk X.prog X.w) := by
  intro pins s σ H o i v ov iv u Q I ro ri rv h
  obtain ⟨a, vs, k, rfl, rfl, e, hl, q⟩ := h
  cases ro
  refine d_setItem hu (I.toK e) (DPut.k upd_same hl) ri rv fun s' I2 => ?_
  rw [upd_upd] at I2
  have I3 := I2.ofK upd_same
  rw [upd_upd] at I3
  exact ⟨_, I3, q⟩
def putMQ (ds : KVM) (y d : PyData) (K : KVM → Prop) : Prop := keyQ y fun k => ds.length < 100000 ∧ K (putM ds k d)
abbrev dKPut (i : Nat) (wi we : DE) (E : DEnds) (env : List SD) : Prop := we env fun d env1 => match env1[i]? with
  | some (.dic _) => wi env1 fun y env2 => match env2[i]? with
    | some (.dic (.kk ds)) => putMQ ds y d fun ds' => E.nx (env2.set i (.dic (.kk ds')))
    | _ => False
  | _ => False
theorem skput (i : Nat) {k0 : Nat} {x : Str} {p0 p1 : Pos} (hr : Room k0 X.A) (hP : Z.P = X.prog) (hW : Z.w = X.w) (he : PE X e (liftE X.K Z we)) (hi : PE X b (liftE X.K Z wb)) (hN : X.N[i]? = some x := by rfl) (hv : Vis X.env.scope x := by first | exact Or.inl rfl | exact Or.inr (Or.inl rfl) | exact Or.inr (Or.inr rfl)) (hd : (x == ("__debug__" : Str)) = false := by decide)
    (hcd : (x == ("__classdict__" : Str)) = false := by decide)
    (hs : swapsWithSole [.Subscript (.Name x p0) b p1] e pos.line X.env = pure false := by rfl) (hw : swappedStores [.Subscript (.Name x p0) b p1] e X.env = pure none := by rfl)
    (h1 : (assignEach [.Subscript (.Name x p0) b p1] X.env).map (·.2) = [assign (.Subscript (.Name x p0) b p1) X.env] := by rfl)
    (ha : ∀ v, assign (.Subscript (.Name x p0) b p1) X.env v = (do
      let ov ← holding [v] (eval (.Name x p0) X.env)
      let iv ← holding [v, ov] (eval b X.env)
      standAt p1
      holding [v, ov, iv] (setItem ov iv v)
      release [v, ov, iv] []) := by intro _; rfl) : PS X (.Assign [.Subscript (.Name x p0) b p1] e pos) (liftS X.K Z m (dKPut i wb we)) :=
  PS.of (ps_asg he (pg_sub (pe_var hN hv hd hcd) hi (set_kk (by have := hr.u65; omega)) ha) hs hw h1) fun D σ H ⟨g, F, env, P, k, w, q⟩ =>
  ⟨g, F, env, _, k, w, fun d env1 v F1 H1 p e1 k1 r1 => by
    split at p
    · rename_i kvs0 ex
      obtain ⟨a0, b1⟩ := k1.ownAt ex
      refine ⟨_, b1, g, F1, env1, _, k1, p, fun d2 env2 v2 F2 H2 p2 e2 k2 r2 => ?_⟩
      split at p2
      · rename_i ds ex2
        obtain ⟨kk, ek, hl, p2⟩ := keyQ_inv p2
        obtain ⟨a1, vs, c1, c2, c3, c4⟩ := k2.kkAt ex2
        rw [b1] at c1
        cases c1
        obtain rfl := ky_val ek r2
        have k3 := k2.writeKk ex2 b1 c3 (c4.put kk (r1.mono e2))
        rw [hP, hW] at c3 k3
        exact ⟨a0, vs, kk, rfl, rfl, c3, by rw [c4.length, sizeLine_eq]; omega, q.nx _ σ F2 _ p2 (e1.trans e2) k3⟩
      · exact p2.elim
    · exact p.elim⟩
theorem PE.toKk {e : Expr} {t : TE} (h : PE X e t) : PE X e (fun σ H Q => t σ H fun v H1 => ∃ a vs, v = .ref a ∧ H1 a = some (.dK vs) ∧ Q v (upd H1 a (KkE X.prog X.w a vs))) := ⟨fun pins s σ H Q I hw => by
  refine thn (h.run pins s σ H _ I hw) fun v s1 ⟨x, H1, I1, r, a, vs, ea, eu, q⟩ => ?_
  exact ⟨x, _, I1.ofK eu, r, q⟩⟩
/-- a new dict of pairs -/
def liftD (K : PySem.W.Frag) (Z : Zx T) (w : List SD → (KVM → List SD → Prop) → Prop) : TE := fun σ H Q => ∃ (g : Gx Z) (F : Hp) (env : List SD) (P : KVM → List SD → Prop), Ok K g F env σ H ∧ w env P ∧
  ∀ ds env' p vs F' H', P ds env' → Ex F F' → Ok K g F' env' σ H' → H' p = none → DM K F' vs ds → Q (.ref p) (upd H' p (.dK vs))
abbrev dDict (we : DE) (env : List SD) (P : KVM → List SD → Prop) : Prop := we env fun d env1 => dictQ d fun ds => P ds env1
theorem ddict (hcalm : X.calm = true) (hm : X.mg "dict" = none) (he : PE X e (liftE X.K Z we)) (hg : Gl X "dict" := by rfl)
    (hse : starEach [e] X.env = (false, eval e X.env) :: starEach [] X.env := by rfl) (hpl : (backTo pos (starEach [] X.env)).any (·.1) = false := by rfl) : PE X (.Call (.Name "dict" p) [e] [] pos) (liftD X.K Z (dDict we)) :=
  PE.of (pe_callTy (CallR.or (call_dictP hcalm) (call_dictT hcalm)) hg hm (by decide +kernel) (pa_cons he pa_nil hse) (by decide) (by decide) hse hpl) fun σ H Q ⟨g, F, env, P, k, w, q⟩ => by
    refine ⟨g, F, env, _, k, w, fun d env1 v F1 H1 p1 e1 k1 r1 => ?_⟩
    unfold dictQ at p1
    split at p1
    · rename_i xs
      split at p1
      · rename_i ps ep
        obtain ⟨a, us, rfl, h1, h2⟩ := r1.inv_lst
        obtain ⟨as, kvs, rfl, z1, z2⟩ := prs_rel k1.fh h2 ep
        exact .inl ⟨a, as, kvs, rfl, (h1.mono k1.fh).sq, z1, fun pp hp => q _ env1 pp _ F1 H1 p1 e1 k1 hp (DM.merge z2 .nil)⟩
      · exact p1.elim
    · rename_i xs
      split at p1
      · rename_i ps ep
        obtain ⟨a, us, rfl, h1, h2⟩ := r1.inv_tupZ
        obtain ⟨as, kvs, rfl, z1, z2⟩ := prs_rel k1.fh h2 ep
        refine .inr ⟨a, as, kvs, rfl, ?_, z1, fun pp hp => q _ env1 pp _ F1 H1 p1 e1 k1 hp (DM.merge z2 .nil)⟩
        rcases h1 with ⟨o, h1, pl⟩ | ⟨o, its, n, y1, y2, y3, y4, y5⟩
        · exact ⟨o, .inl ⟨k1.fh _ _ h1, pl⟩⟩
        · exact ⟨o, .inr ⟨its, n, y1, y2, y3, y4, y5⟩⟩
      · exact p1.elim
    · exact p1.elim
/-- .. as a name's own -/
abbrev dKSet (i : Nat) (w : List SD → (KVM → List SD → Prop) → Prop) (E : DEnds) (env : List SD) : Prop := w env fun ds env1 => bIf (noPar env1 i) (E.nx (env1.set i (.dic (.kk ds)))) False
theorem skset (i : Nat) {w : List SD → (KVM → List SD → Prop) → Prop} {x : Str} {pos' : Pos} (hN : X.N.Nodup) (hP : Z.P = X.prog) (hW : Z.w = X.w) (h : PE X e (liftD X.K Z w)) (hi : X.N[i]? = some x := by rfl) (hx : Loc X.env.scope x := by first | exact Or.inl rfl | exact Or.inr rfl) (hs : swapsWith e (some (.Name x pos')) pos.line X.env = pure false := by rfl)
    (hf : X.fn x = true ∨ X.env.scope.names.lookup x = some .local := by first | exact .inl rfl | exact .inr rfl) : PS X (.Assign [.Name x pos'] e pos) (liftS X.K Z m (dKSet i w)) := PS.of (ps_set hN hi hx (PE.toKk h) hs hf) fun D σ H ⟨g, F, env, P, k, w, q⟩ =>
  ⟨g, F, env, _, k, w, fun ds env1 p vs F1 H1 p1 e1 k1 hp m => ⟨p, vs, rfl, upd_same, by
    rw [upd_upd]
    obtain ⟨w1, w2⟩ := bIf_and p1
    refine q.nx _ _ F1 _ w2 e1 ?_
    have := k1.newKk hp (noPar_of w1) m
    rw [hP, hW] at this
    exact this⟩⟩
end
end DL

namespace DL
variable {T : List (PySem.Addr × PySem.Str)} {Z : Zx T}
open PySem PySem.Spec PyProof.Rows L2 PySem.W
open Evl (Ex)
/-- what the thing at x is told as -/
def TVal (K : PySem.W.Frag) (Z : Zx T) (F H : Hp) (env : List SD) (σ : L2.St) (B : Nat → List Addr) (x : Addr) (f : Obj → HO) : Prop :=
  (∃ (i : Nat) (ds : KVM) (vs : List (Key × V)), env[i]? = some (.dic (.kk ds)) ∧ σ[i]? = some (some (.ref x)) ∧ H x = some (KkE Z.P Z.w x vs) ∧ DM K F vs ds ∧ f = fun o => .frz o (.dK vs)) ∨
  (∃ (i : Nat) (rows : List (List PyData)), env[i]? = some (.dic (.mt rows)) ∧ σ[i]? = some (some (.ref x)) ∧ H x = some (LsE x ((B i).map .ref)) ∧ f = fun _ => .lst ((B i).map .ref)) ∨
  ∃ (i : Nat) (rows : List (List PyData)) (a : Addr) (j : Nat) (vs : List V) (row : List PyData), env[i]? = some (.dic (.mt rows)) ∧ σ[i]? = some (some (.ref a)) ∧ (B i)[j]? = some x ∧ rows[j]? = some row ∧ H x = some (LsE x vs) ∧ DRs K F vs row ∧ f = fun _ => .lst vs
def frzW1 : SD → SD
  | .cel _ xs => .dat (.list xs)
  | .dic (.kk ds) => .dat (.dict ds)
  | .dic (.mt rows) => .dat (.list (rows.map .list))
  | .dic (.tk _) => .un
  | s => s
def frzW (env : List SD) : List SD := env.map frzW1
abbrev dBorW (w : DE) (env : List SD) (P : PyData → List SD → Prop) : Prop := w (frzW env) fun d _ => scalQ d (P d env)
def tBorW (w : DT) (env : List SD) (P : Bool → List SD → Prop) : Prop := w (frzW env) fun b _ => P b env
theorem pairedG {α β : Type} {R : α → β → Prop} {xs : List α} {ys : List β} (h : Paired R xs ys) : ∀ {i : Nat} {x : α} {y : β}, xs[i]? = some x → ys[i]? = some y → R x y := by
  induction h with
  | nil => intro i x y e _; simp at e
  | cons r t ih =>
    intro i x y e1 e2
    cases i with
    | zero => simp at e1 e2; subst e1 e2; exact r
    | succ i => exact ih (i := i) (by simpa using e1) (by simpa using e2)
theorem nodupG {α : Type} {l : List α} (h : l.Nodup) {i j : Nat} {x : α} (e1 : l[i]? = some x) (e2 : l[j]? = some x) : i = j := by
  obtain ⟨h1, e1⟩ := List.getElem?_eq_some_iff.mp e1
  obtain ⟨h2, e2⟩ := List.getElem?_eq_some_iff.mp e2
  have pw := List.pairwise_iff_getElem.mp h
  rcases Nat.lt_trichotomy i j with z | z | z
  · exact absurd (e1.trans e2.symm) (pw i j h1 h2 z)
  · exact z
  · exact absurd (e2.trans e1.symm) (pw j i h2 h1 z)
section
variable {K : PySem.W.Frag} {g : Gx Z} {F : Hp} {env : List SD} {σ : L2.St} {H : Hp} {B : Nat → List Addr}
theorem TVal.out (db : DicsB K g F env σ H B) {x : Addr} {f : Obj → HO} (t : TVal K Z F H env σ B x f) : F x = none ∧ g.H0 x = none ∧ ∃ o, H x = some o ∧ (∃ φ, o = .ext φ) ∧ (∀ q, o ≠ LamX.CodeO x q) ∧ ∀ (od : Addr → Obj), ToldO Z.P Z.w od x o (f (od x)) := by
  rcases t with ⟨i, ds, vs, e1, e2, e3, e4, rfl⟩ | ⟨i, rows, e1, e2, e3, rfl⟩ | ⟨i, rows, a, j, vs, row, e1, e2, e3, e4, e5, e6, rfl⟩
  · obtain ⟨f1, f2, _⟩ := db.there e1 e2 List.mem_cons_self
    exact ⟨f1, f2, _, e3, ⟨_, rfl⟩, fun _ => codeO_kk, fun od => .inl ⟨vs, rfl, rfl⟩⟩
  · obtain ⟨f1, f2, _⟩ := db.there e1 e2 List.mem_cons_self
    exact ⟨f1, f2, _, e3, ⟨_, rfl⟩, fun _ => codeO_ls, fun od => .inr ⟨_, rfl, rfl⟩⟩
  · obtain ⟨f1, f2, _⟩ := db.there e1 e2 (List.mem_cons_of_mem _ (List.mem_of_getElem? e3))
    exact ⟨f1, f2, _, e5, ⟨_, rfl⟩, fun _ => codeO_ls, fun od => .inr ⟨_, rfl, rfl⟩⟩
theorem TVal.form {x : Addr} {f : Obj → HO} (t : TVal K Z F H env σ B x f) (o : Obj) : (∃ vs, f o = .frz o (.dK vs)) ∨ ∃ vs, f o = .lst vs := by
  rcases t with ⟨i, ds, vs, e1, e2, e3, e4, rfl⟩ | ⟨i, rows, e1, e2, e3, rfl⟩ | ⟨i, rows, a, j, vs, row, e1, e2, e3, e4, e5, e6, rfl⟩
  · exact .inl ⟨_, rfl⟩
  · exact .inr ⟨_, rfl⟩
  · exact .inr ⟨_, rfl⟩
/-- two places of one's own things are one slot's -/
theorem DicsB.one (db : DicsB K g F env σ H B) {i j : Nat} {w w' : Own} {a b x : Addr} (e1 : env[i]? = some (.dic w)) (e2 : env[j]? = some (.dic w')) (s1 : σ[i]? = some (some (.ref a))) (s2 : σ[j]? = some (some (.ref b))) (h1 : x ∈ a :: B i) (h2 : x ∈ b :: B j) : i = j := by
  by_cases n : i = j
  · exact n
  · exact absurd h2 (db.sep i j w w' a b e1 e2 s1 s2 n x h1)
theorem TVal.kk (db : DicsB K g F env σ H B) {i : Nat} {ds : KVM} {x : Addr} {f : Obj → HO} (t : TVal K Z F H env σ B x f) (e : env[i]? = some (.dic (.kk ds))) (s : σ[i]? = some (some (.ref x))) : ∃ vs, DM K F vs ds ∧ f = fun o => .frz o (.dK vs) := by
  rcases t with ⟨i', ds', vs, e1, e2, e3, e4, rfl⟩ | ⟨i', rows, e1, e2, e3, rfl⟩ | ⟨i', rows, a, j, vs, row, e1, e2, e3, e4, e5, e6, rfl⟩
  · have := db.one e e1 s e2 List.mem_cons_self List.mem_cons_self
    subst this
    rw [e] at e1
    cases e1
    exact ⟨vs, e4, rfl⟩
  · have := db.one e e1 s e2 List.mem_cons_self List.mem_cons_self
    subst this
    rw [e] at e1
    cases e1
  · have := db.one e e1 s e2 List.mem_cons_self (List.mem_cons_of_mem _ (List.mem_of_getElem? e3))
    subst this
    rw [e] at e1
    cases e1
theorem TVal.mt (db : DicsB K g F env σ H B) {i : Nat} {rows : List (List PyData)} {x : Addr} {f : Obj → HO} (t : TVal K Z F H env σ B x f) (e : env[i]? = some (.dic (.mt rows))) (s : σ[i]? = some (some (.ref x))) : f = fun _ => .lst ((B i).map .ref) := by
  rcases t with ⟨i', ds', vs, e1, e2, e3, e4, rfl⟩ | ⟨i', rows', e1, e2, e3, rfl⟩ | ⟨i', rows', a, j, vs, row, e1, e2, e3, e4, e5, e6, rfl⟩
  · have := db.one e e1 s e2 List.mem_cons_self List.mem_cons_self
    subst this
    rw [e] at e1
    cases e1
  · have := db.one e e1 s e2 List.mem_cons_self List.mem_cons_self
    subst this
    rfl
  · have := db.one e e1 s e2 List.mem_cons_self (List.mem_cons_of_mem _ (List.mem_of_getElem? e3))
    subst this
    obtain ⟨c, y1, y2⟩ := db.at_ i _ e
    rw [s] at y1
    cases y1
    exact absurd (List.mem_of_getElem? e3) (List.nodup_cons.mp y2.rel.1.2).1
theorem TVal.row (db : DicsB K g F env σ H B) {i j : Nat} {rows : List (List PyData)} {row : List PyData} {a x : Addr} {f : Obj → HO} (t : TVal K Z F H env σ B x f) (e : env[i]? = some (.dic (.mt rows))) (s : σ[i]? = some (some (.ref a))) (hx : (B i)[j]? = some x) (hr : rows[j]? = some row) : ∃ vs, DRs K F vs row ∧ f = fun _ => .lst vs := by
  have mx : x ∈ a :: B i := List.mem_cons_of_mem _ (List.mem_of_getElem? hx)
  obtain ⟨c, y1, y2⟩ := db.at_ i _ e
  rw [s] at y1
  cases y1
  have nd := List.nodup_cons.mp y2.rel.1.2
  rcases t with ⟨i', ds', vs, e1, e2, e3, e4, rfl⟩ | ⟨i', rows', e1, e2, e3, rfl⟩ | ⟨i', rows', a', j', vs, row', e1, e2, e3, e4, e5, e6, rfl⟩
  · have := db.one e e1 s e2 mx List.mem_cons_self
    subst this
    rw [e] at e1
    cases e1
  · have := db.one e e1 s e2 mx List.mem_cons_self
    subst this
    rw [s] at e2
    cases e2
    exact absurd (List.mem_of_getElem? hx) nd.1
  · have := db.one e e1 s e2 mx (List.mem_cons_of_mem _ (List.mem_of_getElem? e3))
    subst this
    rw [e] at e1
    cases e1
    have := nodupG nd.2 hx e3
    subst this
    rw [hr] at e4
    cases e4
    exact ⟨vs, e6, rfl⟩
theorem tabs_to {H H' : Hp} (t : LamX.Tabs T H) (h1 : ∀ x ps, H x = some (.tbl ps) → H' x = some (.tbl ps)) (h2 : ∀ x q, H x = some (LamX.CodeO x q) → H' x = some (LamX.CodeO x q)) : LamX.Tabs T H' := fun p hp => by
  obtain ⟨ps, a1, a2, a3⟩ := t p hp
  exact ⟨ps, h1 _ _ a1, a2, fun pos cv hc => let ⟨c, z1, z2⟩ := a3 pos cv hc; ⟨c, z1, h2 _ _ z2⟩⟩
theorem Ok.lendW (k : Ok K g F env σ H) : ∃ told : (Addr → Obj) → Hp, ∀ od, RcO Z.P Z.w od H (told od) ∧ ∃ (Z' : Zx T) (g' : Gx Z') (F' : Hp), Ok K g' F' (frzW env) σ (told od) ∧ Z'.H0 = told od ∧ (∀ i, Z'.A0 i = none) ∧ (Z'.F0 = F' ∧ Ex F F' ∧ ∀ a o xs, F' a = some (.frz o (.tup xs)) → F a = some (.frz o (.tup xs))) ∧
    ∀ H1, Frm T (told od) (fun _ => True) H1 → Ex F' H1 → ∃ H2, RcO Z.P Z.w od H2 H1 ∧ (∀ x, H2 x = H1 x ∨ ∃ φ, H x = some (.ext φ)) ∧ Ok K g F env σ H2 := by
  classical
  obtain ⟨B, db⟩ := k.dic
  let tv : Addr → Prop := fun x => ∃ f, TVal K Z F H env σ B x f
  let told : (Addr → Obj) → Hp := fun od x => if h : tv x then some (Classical.choose h (od x)) else H x
  have yes : ∀ od {x : Addr} (h : tv x), ∃ f, TVal K Z F H env σ B x f ∧ told od x = some (f (od x)) := fun od {x} h => ⟨_, Classical.choose_spec h, by show (if h : tv x then _ else _) = _; rw [dif_pos h]⟩
  have no : ∀ od {x : Addr}, ¬ tv x → told od x = H x := fun od {x} h => by show (if h : tv x then _ else _) = _; rw [dif_neg h]
  refine ⟨told, fun od => ?_⟩
  have rc : RcO Z.P Z.w od H (told od) := fun x => by
    by_cases h : tv x
    · obtain ⟨f, t, e⟩ := yes od h
      obtain ⟨_, _, o, e1, _, _, e2⟩ := t.out db
      exact .inr ⟨o, _, e1, e, e2 od⟩
    · exact .inl (no od h)
  refine ⟨rc, ?_⟩
  let c : Addr → Prop := fun a => ∃ (i : Nat) (p : Bool) (xs : List PyData), env[i]? = some (.cel p xs) ∧ σ[i]? = some (some (.ref a))
  have celH : ∀ {a : Addr}, c a → ∃ vs, H a = some (.lst vs) := fun {a} ⟨i, p, xs, e, h1⟩ => by
    obtain ⟨b, vs, b1, _, b3, _⟩ := k.cel i p xs e
    rw [h1] at b1
    cases b1
    exact ⟨vs, b3⟩
  have ntv : ∀ {a : Addr} {vs : List V}, H a = some (.lst vs) → ¬ tv a := fun {a vs} e ⟨f, t⟩ => by
    obtain ⟨_, _, o, e1, ⟨φ, rfl⟩, _⟩ := t.out db
    rw [e] at e1
    cases e1
  let F' : Hp := fun a => if tv a then told od a else if c a then H a else F a
  have F'y : ∀ {a : Addr}, tv a → F' a = told od a := fun {a} h => if_pos h
  have F'c : ∀ {a : Addr}, ¬ tv a → c a → F' a = H a := fun {a} h1 h2 => by show (if tv a then _ else _) = _; rw [if_neg h1, if_pos h2]
  have F'n : ∀ {a : Addr}, ¬ tv a → ¬ c a → F' a = F a := fun {a} h1 h2 => by show (if tv a then _ else _) = _; rw [if_neg h1, if_neg h2]
  have ex : Ex F F' := fun a o h => by
    have nt : ¬ tv a := fun ⟨f, t⟩ => by
      have := (t.out db).1
      rw [h] at this
      cases this
    by_cases z : c a
    · rw [F'c nt z]; exact k.fh a o h
    · rw [F'n nt z]; exact h
  have fh : Ex F' (told od) := fun a o h => by
    by_cases y : tv a
    · rw [F'y y] at h; exact h
    · rw [no od y]
      by_cases z : c a
      · rw [F'c y z] at h; exact h
      · rw [F'n y z] at h; exact k.fh a o h
  have nt : ∀ a ps, F' a ≠ some (.tbl ps) := fun a ps h => by
    by_cases y : tv a
    · rw [F'y y] at h
      obtain ⟨f, t, e⟩ := yes od y
      rw [e] at h
      rcases t.form (od a) with ⟨vs, z⟩ | ⟨vs, z⟩ <;> (rw [z] at h; cases h)
    · by_cases z : c a
      · rw [F'c y z] at h
        obtain ⟨vs, e⟩ := celH z
        rw [e] at h
        cases h
      · rw [F'n y z] at h
        exact k.oldF.2 a ps h
  have tb : LamX.Tabs T (told od) := tabs_to k.frame.tab (fun x ps e => by
      rw [no od fun ⟨f, t⟩ => by
        obtain ⟨_, _, o, e1, ⟨φ, rfl⟩, _⟩ := t.out db
        rw [e] at e1
        cases e1]
      exact e) fun x q e => by
      rw [no od fun ⟨f, t⟩ => by
        obtain ⟨_, _, o, e1, _, n, _⟩ := t.out db
        rw [e] at e1
        exact n q (Option.some.inj e1).symm]
      exact e
  have at_ : ∀ {i : Nat} {s : SD}, (frzW env)[i]? = some s → ∃ s0, env[i]? = some s0 ∧ s = frzW1 s0 := fun {i s} h => by
    unfold frzW at h
    rw [List.getElem?_map] at h
    cases e : env[i]? with
    | none => rw [e] at h; cases h
    | some s0 => rw [e] at h; exact ⟨s0, rfl, (Option.some.inj h).symm⟩
  refine ⟨⟨F', told od, fun _ => none, fun _ => none, Z.P, Z.w⟩, ⟨fun _ => none, fun _ _ h => h, fun _ _ h => by cases h⟩, F', ⟨?_, fh, fun i d h => ?_, fun i p xs h => ?_, fun i j p q xs ys a h => ?_, fun i a h => ?_, Frm.refl tb, fun a o h => .inl h, ⟨Ex.refl _, nt⟩, fun a o h => ?_, DicsOk.none fun i w h => ?_⟩, rfl, fun _ => rfl, ⟨rfl, ex, fun a o xs h => ?_⟩, fun H1 fr eh => ?_⟩
  · unfold frzW
    rw [List.length_map]
    exact k.len
  · obtain ⟨s0, e, es⟩ := at_ h
    cases s0 with
    | un => cases es
    | dat d' =>
      cases es
      obtain ⟨v, h1, h2⟩ := k.dat i _ e
      exact ⟨v, h1, h2.mono ex⟩
    | cel p xs =>
      cases es
      obtain ⟨a, vs, h1, h2, h3, h4, h5⟩ := k.cel i p xs e
      refine ⟨_, h1, .lst (RdL.of (xs := vs) ?_) (h4.mono ex)⟩
      rw [F'c (ntv h3) ⟨i, p, xs, e, h1⟩]
      exact h3
    | dic w =>
      obtain ⟨a, h1, h2⟩ := db.at_ i w e
      cases w with
      | tk kvs => cases es
      | kk ds =>
        cases es
        obtain ⟨_, vs, h3, h4⟩ := h2.rel
        have y : tv a := ⟨_, .inl ⟨i, ds, vs, e, h1, h3, h4, rfl⟩⟩
        obtain ⟨f, t, ef⟩ := yes od y
        obtain ⟨vs', m, rfl⟩ := t.kk db e h1
        exact ⟨_, h1, .dct (by rw [F'y y]; exact ef) (m.mono ex)⟩
      | mt rows =>
        cases es
        obtain ⟨⟨h3, nd⟩, hp⟩ := h2.rel
        have y : tv a := ⟨_, .inr (.inl ⟨i, rows, e, h1, h3, rfl⟩)⟩
        obtain ⟨f, t, ef⟩ := yes od y
        obtain rfl := t.mt db e h1
        refine ⟨_, h1, .lst (RdL.of (by rw [F'y y]; exact ef)) ?_⟩
        have all : ∀ (n : Nat) (bs : List Addr) (rs : List (List PyData)), bs.length = rs.length → (∀ j b, bs[j]? = some b → (B i)[n + j]? = some b) → (∀ j r, rs[j]? = some r → rows[n + j]? = some r) → DRs K F' (bs.map V.ref) (rs.map PyData.list) := fun n bs => by
          induction bs generalizing n with
          | nil =>
            intro rs hl _ _
            cases rs with
            | nil => exact .nil
            | cons _ _ => simp at hl
          | cons b bs ih =>
            intro rs hl hb hr
            cases rs with
            | nil => simp at hl
            | cons r rs =>
              have b0 := hb 0 b rfl
              have r0 := hr 0 r rfl
              obtain ⟨us, z1, z2⟩ := pairedG hp b0 r0
              have y : tv b := ⟨_, .inr (.inr ⟨i, rows, a, n + 0, us, r, e, h1, b0, r0, z1, z2, rfl⟩)⟩
              obtain ⟨f, t, ef⟩ := yes od y
              obtain ⟨vs', m, rfl⟩ := t.row db e h1 b0 r0
              refine .cons (.lst (RdL.of (by rw [F'y y]; exact ef)) (m.mono ex)) (ih (n + 1) rs (by simpa using hl) (fun j c hj => ?_) fun j c hj => ?_)
              · have := hb (j + 1) c (by simpa using hj)
                rwa [show n + (j + 1) = n + 1 + j by omega] at this
              · have := hr (j + 1) c (by simpa using hj)
                rwa [show n + (j + 1) = n + 1 + j by omega] at this
        exact all 0 (B i) rows (Paired.length hp) (fun j b hj => by simpa using hj) fun j r hj => by simpa using hj
  · obtain ⟨s0, e, es⟩ := at_ h
    cases s0 with
    | dic w => cases w <;> cases es
    | _ => cases es
  · obtain ⟨s0, e, es⟩ := at_ h
    cases s0 with
    | dic w => cases w <;> cases es
    | _ => cases es
  · cases h
  · cases h
  · obtain ⟨s0, e, es⟩ := at_ h
    cases s0 with
    | dic w => cases w <;> cases es
    | _ => cases es
  · by_cases y : tv a
    · rw [F'y y] at h
      obtain ⟨f, t, e⟩ := yes od y
      rw [e] at h
      rcases t.form (od a) with ⟨vs, z⟩ | ⟨vs, z⟩ <;> (rw [z] at h; cases h)
    · by_cases z : c a
      · rw [F'c y z] at h
        obtain ⟨vs, e⟩ := celH z
        rw [e] at h
        cases h
      · rw [F'n y z] at h
        exact h
  · let H2 : Hp := fun x => if tv x then H x else H1 x
    have y2 : ∀ {x : Addr}, tv x → H2 x = H x := fun {x} h => if_pos h
    have n2 : ∀ {x : Addr}, ¬ tv x → H2 x = H1 x := fun {x} h => if_neg h
    have st : ∀ {x : Addr}, tv x → ∃ f, TVal K Z F H env σ B x f ∧ H1 x = some (f (od x)) := fun {x} h => by
      obtain ⟨f, t, e⟩ := yes od h
      exact ⟨f, t, (fr.stay x _ e trivial).same fun ps z => by rcases t.form (od x) with ⟨vs, y⟩ | ⟨vs, y⟩ <;> (rw [y] at z; cases z)⟩
    refine ⟨H2, fun x => ?_, fun x => ?_, k.later ⟨fun a o e _ => ?_, tabs_to fr.tab (fun x ps e => ?_) fun x q e => ?_⟩ fun a o e => ?_⟩
    · by_cases h : tv x
      · obtain ⟨f, t, e⟩ := st h
        obtain ⟨_, _, o, e1, _, _, e2⟩ := t.out db
        exact .inr ⟨o, _, (y2 h).trans e1, e, e2 od⟩
      · exact .inl (n2 h).symm
    · by_cases h : tv x
      · obtain ⟨f, t, e⟩ := st h
        obtain ⟨_, _, o, e1, ⟨φ, rfl⟩, _⟩ := t.out db
        exact .inr ⟨φ, e1⟩
      · exact .inl (n2 h)
    · by_cases h : tv a
      · exact .inl ((y2 h).trans e)
      · rw [n2 h]
        exact fr.stay a o ((no od h).trans e) trivial
    · rw [n2 fun h => by
        obtain ⟨f, t, ef⟩ := st h
        rw [e] at ef
        rcases t.form (od x) with ⟨vs, y⟩ | ⟨vs, y⟩ <;> (rw [y] at ef; cases ef)]
      exact e
    · rw [n2 fun h => by
        obtain ⟨f, t, ef⟩ := st h
        rw [e] at ef
        unfold LamX.CodeO at ef
        rcases t.form (od x) with ⟨vs, y⟩ | ⟨vs, y⟩ <;> (rw [y] at ef; cases ef)]
      exact e
    · have z := eh a o (ex a o e)
      rw [n2 fun ⟨f, t⟩ => by
        have := (t.out db).1
        rw [e] at this
        cases this]
      exact z
end
section
variable {X : Cx} {e : Expr}
theorem dborW (hP : Z.P = X.prog) (hW : Z.w = X.w) {w : DE} (h : ∀ {Z : Zx T}, PE X e (liftE X.K Z w)) : PE X e (liftE X.K Z (dBorW w)) := PE.of (PE.rc (PE.anyZ fun Z => h (Z := Z))) fun σ H Q ⟨g, F, env, P, k, w, q⟩ => by
  obtain ⟨told, hl⟩ := k.lendW
  rw [hP, hW] at hl
  refine ⟨told, fun od => ?_⟩
  obtain ⟨r, Z', g', F', k', e1, e2, _, back⟩ := hl od
  refine ⟨r, Z', g', F', frzW env, _, k', w, fun d env1 v F1 H1 p e3 k1 r1 => ?_⟩
  obtain ⟨p, hr⟩ := scalQ_inv p
  have eh : Frm T (told od) (fun _ => True) H1 := by
    have z := k1.frame
    rw [show g'.H0 = told od from e1] at z
    exact z.weak fun a o _ _ i y => by rw [show g'.A0 i = none from e2 i] at y; cases y
  obtain ⟨H2, r2, nf, k2⟩ := back H1 eh (e3.trans k1.fh)
  exact ⟨H2, r2, nf, q d env v F H2 p (Ex.refl F) k2 (hr r1)⟩
theorem tborW (hP : Z.P = X.prog) (hW : Z.w = X.w) {w : DT} (h : ∀ {Z : Zx T}, PT X e (liftT X.K Z w)) : PT X e (liftT X.K Z (tBorW w)) := PT.of (PT.rc (PT.anyZ fun Z => h (Z := Z))) fun σ H Q ⟨g, F, env, P, k, w, q⟩ => by
  obtain ⟨told, hl⟩ := k.lendW
  rw [hP, hW] at hl
  refine ⟨told, fun od => ?_⟩
  obtain ⟨r, Z', g', F', k', e1, e2, _, back⟩ := hl od
  refine ⟨r, Z', g', F', frzW env, _, k', w, fun d env1 F1 H1 p e3 k1 => ?_⟩
  have eh : Frm T (told od) (fun _ => True) H1 := by
    have z := k1.frame
    rw [show g'.H0 = told od from e1] at z
    exact z.weak fun a o _ _ i y => by rw [show g'.A0 i = none from e2 i] at y; cases y
  obtain ⟨H2, r2, nf, k2⟩ := back H1 eh (e3.trans k1.fh)
  exact ⟨H2, r2, nf, q d env F H2 p (Ex.refl F) k2⟩
end
end DL

namespace DL
variable {T : List (PySem.Addr × PySem.Str)} {Z : Zx T}
open PySem PySem.Spec PyProof.Rows L2 PySem.W
open Evl (Ex)
section
variable {X : Cx} {pins : List (Addr × Obj)} {σ : L2.St} {H : Hp} {s : Shared} {a : Addr} {vs : List V}
theorem _root_.L2.Inv.toL (I : Inv X pins σ H s) (e : H a = some (LsE a vs)) : Inv X pins σ (upd H a (.lst vs)) s := by
  obtain ⟨⟨z1, its, n, z2, z3⟩, he, _⟩ := I.hok a _ e
  exact d_write (t' := s.toks) I (by rw [e]; exact True.intro) ⟨rfl, fun _ _ => rfl⟩ he ⟨z1, its, n, z2, z3⟩
theorem _root_.L2.Inv.ofL (I : Inv X pins σ H s) (e : H a = some (.lst vs)) : Inv X pins σ (upd H a (LsE a vs)) s := by
  have x := I.hok a _ e
  have x2 : ObjOk X.prog X.w (upd H a (LsE a vs)) s.heap a (LsE a vs) := ls_ok (H := H) x
  exact d_write (t' := s.toks) I (by rw [e]; exact True.intro) ⟨rfl, fun _ _ => rfl⟩ x2.2.1 x2
theorem upd_self {H : Hp} {a : Addr} {o : HO} (e : H a = some o) : upd H a o = H := by
  funext b
  by_cases h : b = a
  · subst h; rw [upd_same, e]
  · rw [upd_ne h]
end
section
variable {X : Cx} {e : Expr} {st : Stmt}
theorem PE.toLs {t : TE} (h : PE X e t) : PE X e (fun σ H Q => t σ H fun v H1 => ∃ a vs, v = .ref a ∧ H1 a = some (.lst vs) ∧ Q v (upd H1 a (LsE a vs))) := ⟨fun pins s σ H Q I hw => by
  refine thn (h.run pins s σ H _ I hw) fun v s1 ⟨x, H1, I1, r, a, vs, ea, eu, q⟩ => ?_
  exact ⟨x, _, I1.ofL eu, r, q⟩⟩
theorem PS.toLs {t : TS} (h : PS X st t) : PS X st (fun D σ H => t ⟨fun σ' H' => ∃ a vs, H' a = some (.lst vs) ∧ D.nx σ' (upd H' a (LsE a vs)), D.rt, D.bk, D.ct⟩ σ H) := ⟨fun pins s σ H D I hw => by
  refine thn (h.run pins s σ H _ I hw) fun f s1 q => ?_
  cases f with
  | next => obtain ⟨σ', H', I2, a, vs, e, q⟩ := q; exact ⟨σ', _, I2.ofL e, q⟩
  | brk => exact q
  | cont => exact q
  | ret v => exact q⟩
/-- an item of such a list -/
def rIxLs : R2 := fun x y H Q => ∃ a us i v, x = .ref a ∧ y = .int i ∧ H a = some (LsE a us) ∧ atI us i = some v ∧ Q v H
theorem ix_ls : IxR X rIxLs := by
  intro value slice pins s σ H x y v u Q I rx ry h hs
  obtain ⟨a, us, i, z, rfl, rfl, e, he, q⟩ := h
  refine thn (ix_list value slice pins s σ (upd H a (.lst us)) (.ref a) (.int i) v u (fun z' H' => z' = z ∧ H' = upd H a (.lst us)) (I.toL e) rx ry ⟨a, us, i, z, rfl, rfl, SqL.of upd_same, he, rfl, rfl⟩ hs) ?_
  rintro w s1 ⟨z', H', I1, r1, rfl, rfl⟩
  have I2 := I1.ofL upd_same
  rw [upd_upd, upd_self e] at I2
  exact ⟨z', H, I2, r1, q⟩
def rAppLs : V → List V → Hp → VK → Prop := fun x vs H Q => ∃ a us y, x = .ref a ∧ vs = [y] ∧ H a = some (LsE a us) ∧ us.length < sizeLine ∧ Q .non (upd H a (LsE a (us ++ [y])))
theorem mt_appLs : MtR X "list.append" rAppLs := by
  intro pins s σ H x xs v us Q I rx rv h
  obtain ⟨a, ws, y, rfl, rfl, e, hz, q⟩ := h
  refine thn (mt_append pins s σ (upd H a (.lst ws)) (.ref a) [y] v us (fun z H' => z = .non ∧ H' = upd H a (.lst (ws ++ [y]))) (I.toL e) rx rv ⟨a, ws, y, rfl, rfl, upd_same, hz, rfl, by rw [upd_upd]⟩) ?_
  rintro w s1 ⟨z', H', I1, r1, rfl, rfl⟩
  have I2 := I1.ofL upd_same
  rw [upd_upd] at I2
  exact ⟨.non, _, I2, r1, q⟩
/-- o.m(x), o such a list -/
def tBMLs (r : V → List V → Hp → VK → Prop) (to : TE) (t : TA) : TE := fun σ H Q => to σ H fun x H1 => (∃ a us, x = .ref a ∧ H1 a = some (LsE a us)) ∧ t σ H1 fun xs H2 => r x xs H2 Q
theorem pe_bmLs {o e : Expr} {es : List Expr} {to : TE} {t : TA} {name : Str} {apos cpos : Pos} {id : String} {r : V → List V → Hp → VK → Prop} (slot : Slot "list" name id) (hty : typeOf (.builtin id) = pure (.type "method_descriptor")) (hm : MtR X id r)
    (ho : PE X o to) (ha : PA X (e :: es) t) (hbase : attributeBase o name X.env (eval o X.env) = eval o X.env := by rfl)
    (hfew : ((backTo cpos (starEach (e :: es) X.env)).all (!·.1) && (backToKw cpos (keywordEach [] X.env)).all (·.1.isSome) && decide ((e :: es).length + ([] : List Keyword).length + (if ([] : List Keyword).isEmpty then 0 else 1) < 30)) = true := by rfl)
    (hline : (apos.endLine == cpos.line) = true := by rfl) (hs : starEach (e :: es) X.env = (false, eval e X.env) :: starEach es X.env := by rfl) (hpl : (backTo cpos (starEach es X.env)).any (·.1) = false := by rfl) :
    PE X (.Call (.Attribute o name apos) (e :: es) [] cpos) (tBMLs r to t) := ⟨fun pins s σ H Q I h => by
  refine wpAny_Call_method_late hbase hfew hline rfl (thn (ho.run pins s σ H _ I h) ?_)
  rintro v s1 ⟨x, H1, I1, r1, ⟨l, us, rfl, hT⟩, q1⟩
  cases r1
  obtain ⟨⟨_, its, n, _, hob⟩, _⟩ := I1.hok l _ hT
  refine ⟨"list", id, PySem.F.plainAttrs_list, slot, hty, ⟨_, hob, rfl⟩, fun a z => ?_, ?_⟩
  · cases z
    exact ⟨_, hob, rfl⟩
  · have w := ha.run cpos pins s1 σ H1 _ I1 q1
    rw [hs] at w ⊢
    refine Calls.callWith_builtin (by show (false || (backTo cpos (starEach es X.env)).any (·.1)) = false; rw [hpl] <;> rfl) (Calls.evalArgs_plain (thn w ?_))
    rintro us s2 ⟨vs, H2, I2, r2, q2⟩
    exact hm pins s2 σ H2 (.ref l) vs (.ref l) us Q I2 rfl r2 q2⟩
end
section
variable {K : PySem.W.Frag} {g : Gx Z} {F : Hp} {env : List SD} {σ : L2.St} {H : Hp}
theorem Ok.newMt (k : Ok K g F env σ H) {i : Nat} {p : Addr} (hp : H p = none) (np : NoPar env i) : Ok K g F (env.set i (.dic (.mt []))) (σ.set i (some (.ref p))) (upd H p (LsE p [])) :=
  k.newW hp np ⟨⟨upd_same, by simp⟩, .nil⟩
theorem Paired.setR {α β : Type} {R : α → β → Prop} {xs : List α} {ys : List β} (h : Paired R xs ys) : ∀ {j : Nat} {y : β}, (∀ x, xs[j]? = some x → R x y) → Paired R xs (ys.set j y) := by
  induction h with
  | nil => intro j y _; exact .nil
  | cons r t ih =>
    intro j y hy
    cases j with
    | zero => exact .cons (hy _ rfl) t
    | succ j => exact .cons r (ih fun x hx => hy x (by simpa using hx))
theorem rows_keep {H H' : Hp} {bs : List Addr} {rows : List (List PyData)} (h : Paired (fun b row => ∃ us, H b = some (LsE b us) ∧ DRs K F us row) bs rows) (all : ∀ x ∈ bs, H' x = H x) : Paired (fun b row => ∃ us, H' b = some (LsE b us) ∧ DRs K F us row) bs rows := by
  induction h with
  | nil => exact .nil
  | cons h t ih =>
    obtain ⟨us, z1, z2⟩ := h
    exact .cons ⟨us, (all _ List.mem_cons_self).trans z1, z2⟩ (ih fun x hx => all x (List.mem_cons_of_mem _ hx))
/-- x.append([]) -/
theorem Ok.addRow (k : Ok K g F env σ H) {i : Nat} {rows : List (List PyData)} {p : Addr} (he : env[i]? = some (.dic (.mt rows))) (hp : H p = none) : ∃ a us, σ[i]? = some (some (.ref a)) ∧ a ≠ p ∧ H a = some (LsE a us) ∧ us.length = rows.length ∧
    Ok K g F (env.set i (.dic (.mt (rows ++ [[]])))) σ (upd (upd H p (LsE p [])) a (LsE a (us ++ [.ref p]))) := by
  obtain ⟨B, db⟩ := k.dic
  obtain ⟨a, hs, oa⟩ := db.at_ i _ he
  obtain ⟨⟨h3, nd⟩, hpr⟩ := oa.rel
  have k1 := k.extra (o := LsE p []) hp
  have nx : ∀ {x : Addr}, x ∈ a :: B i → x ≠ p := fun {x} hx z => by
    obtain ⟨_, _, _, φ, e⟩ := oa.out x hx
    rw [z, hp] at e
    cases e
  have db1 : DicsB K g F env σ (upd H p (LsE p [])) B := db.keep (Ex.refl F) (fun _ _ _ z => z) fun x ψ h1 h2 => ⟨h2, upd_ne (ne_of_none h1 hp)⟩
  have prp : g.Pr p = none := by
    cases e : g.Pr p with
    | none => rfl
    | some o => rw [(k.prot p o e).1] at hp; cases hp
  have na : a ≠ p := nx List.mem_cons_self
  refine ⟨a, (B i).map .ref, hs, na, h3, by rw [List.length_map]; exact Paired.length hpr, ?_⟩
  refine k1.writeW db1 (w' := .mt (rows ++ [[]])) (bs' := B i ++ [p]) he hs List.mem_cons_self (by rw [upd_ne na]; exact h3) (fun _ => codeO_ls) ⟨⟨⟨by rw [upd_same, List.map_append]; rfl, ?_⟩, ?_⟩, fun x hx => ?_⟩ fun y hy => ?_
  · rw [List.nodup_cons] at nd ⊢
    refine ⟨fun z => ?_, ?_⟩
    · rcases List.mem_append.mp z with z | z
      · exact nd.1 z
      · exact na (List.mem_singleton.mp z)
    · rw [List.nodup_append]
      refine ⟨nd.2, by simp, fun x hx y hy z => ?_⟩
      rw [List.mem_singleton.mp hy] at z
      exact nx (List.mem_cons_of_mem _ hx) z
  · refine Paired.snoc ?_ ⟨[], by rw [upd_ne (Ne.symm na), upd_same], .nil⟩
    have nd2 := (List.nodup_cons.mp nd).1
    have all : ∀ x ∈ B i, upd (upd H p (LsE p [])) a (LsE a ((B i).map .ref ++ [.ref p])) x = H x := fun x hx => by
      have n1 : x ≠ a := fun z => by subst z; exact nd2 hx
      rw [upd_ne n1, upd_ne (nx (List.mem_cons_of_mem _ hx))]
    exact rows_keep hpr all
  · by_cases hx1 : x = a
    · subst hx1
      obtain ⟨f1, f2, f3, _⟩ := oa.out x List.mem_cons_self
      exact ⟨f1, f2, f3, _, upd_same⟩
    · rw [upd_ne hx1]
      rcases List.mem_cons.mp hx with hx | hx
      · exact absurd hx hx1
      · rcases List.mem_append.mp hx with hx | hx
        · obtain ⟨f1, f2, f3, φ, f4⟩ := oa.out x (List.mem_cons_of_mem _ hx)
          exact ⟨f1, f2, f3, φ, by rw [upd_ne (nx (List.mem_cons_of_mem _ hx))]; exact f4⟩
        · rw [List.mem_singleton.mp hx]
          exact ⟨fnone k.fh hp, k.fresh0 hp, prp, _, upd_same⟩
  · rcases List.mem_append.mp hy with hy | hy
    · exact .inl (List.mem_cons_of_mem _ hy)
    · refine .inr fun j w2 b e1 e2 z => ?_
      rw [List.mem_singleton.mp hy] at z
      obtain ⟨_, _, _, φ, e⟩ := db.there e1 e2 z
      rw [hp] at e
      cases e
/-- x[j].append(v) -/
theorem Ok.putRow (k : Ok K g F env σ H) {i j : Nat} {rows : List (List PyData)} {row : List PyData} {v : V} {d : PyData} (he : env[i]? = some (.dic (.mt rows))) (hr : rows[j]? = some row) (r : DR K F v d) : ∃ a us b ws, σ[i]? = some (some (.ref a)) ∧ H a = some (LsE a us) ∧ us.length = rows.length ∧
    us[j]? = some (.ref b) ∧ H b = some (LsE b ws) ∧ ws.length = row.length ∧ Ok K g F (env.set i (.dic (.mt (rows.set j (row ++ [d]))))) σ (upd H b (LsE b (ws ++ [v]))) := by
  obtain ⟨B, db⟩ := k.dic
  obtain ⟨a, hs, oa⟩ := db.at_ i _ he
  obtain ⟨⟨h3, nd⟩, hpr⟩ := oa.rel
  have hl : (B i).length = rows.length := Paired.length hpr
  have hj : j < (B i).length := by rw [hl]; exact (List.getElem?_eq_some_iff.mp hr).1
  have hb : (B i)[j]? = some (B i)[j] := List.getElem?_eq_getElem hj
  generalize (B i)[j] = b at hb
  obtain ⟨ws, z1, z2⟩ := pairedG hpr hb hr
  have mb : b ∈ a :: B i := List.mem_cons_of_mem _ (List.mem_of_getElem? hb)
  have nd1 := List.nodup_cons.mp nd
  have nb : a ≠ b := fun z => nd1.1 (z ▸ List.mem_of_getElem? hb)
  refine ⟨a, (B i).map .ref, b, ws, hs, h3, by rw [List.length_map]; exact hl, by rw [List.getElem?_map, hb]; rfl, z1, z2.length, ?_⟩
  refine k.writeW db (w' := .mt (rows.set j (row ++ [d]))) (bs' := B i) he hs mb z1 (fun _ => codeO_ls) ⟨⟨⟨by rw [upd_ne nb]; exact h3, nd⟩, ?_⟩, fun x hx => ?_⟩ fun y hy => .inl (List.mem_cons_of_mem _ hy)
  · have base : Paired (fun c row' => c ≠ b → ∃ us, upd H b (LsE b (ws ++ [v])) c = some (LsE c us) ∧ DRs K F us row') (B i) rows := Paired.mapP hpr fun c row' ⟨us, y1, y2⟩ n => ⟨us, by rw [upd_ne n]; exact y1, y2⟩
    have full : Paired (fun c row' => (c ≠ b → ∃ us, upd H b (LsE b (ws ++ [v])) c = some (LsE c us) ∧ DRs K F us row') ∧ (c = b → row' = row ++ [d])) (B i) (rows.set j (row ++ [d])) := by
      have go : ∀ {bs : List Addr} {rs : List (List PyData)} {n : Nat}, Paired (fun c row' => c ≠ b → ∃ us, upd H b (LsE b (ws ++ [v])) c = some (LsE c us) ∧ DRs K F us row') bs rs → bs.Nodup → bs[n]? = some b →
          Paired (fun c row' => (c ≠ b → ∃ us, upd H b (LsE b (ws ++ [v])) c = some (LsE c us) ∧ DRs K F us row') ∧ (c = b → row' = row ++ [d])) bs (rs.set n (row ++ [d])) := by
        intro bs rs n hp
        induction hp generalizing n with
        | nil => intro _ e; simp at e
        | @cons c r' cs rs h t ih =>
          intro nd e
          have nd := List.nodup_cons.mp nd
          cases n with
          | zero =>
            simp at e
            subst e
            refine .cons ⟨fun n => absurd rfl n, fun _ => rfl⟩ ?_
            have nn : ∀ x ∈ cs, x ≠ c := fun x hx z => nd.1 (z ▸ hx)
            clear ih
            induction t with
            | nil => exact .nil
            | @cons c2 r2 cs2 rs2 h2 t2 ih2 =>
              refine .cons ⟨h2, fun z => absurd z (nn c2 List.mem_cons_self)⟩ (ih2 (List.nodup_cons.mpr ⟨fun z => nd.1 (List.mem_cons_of_mem _ z), (List.nodup_cons.mp nd.2).2⟩) ⟨fun z => nd.1 (List.mem_cons_of_mem _ z), (List.nodup_cons.mp nd.2).2⟩ fun x hx => nn x (List.mem_cons_of_mem _ hx))
          | succ n =>
            have e2 : cs[n]? = some b := by simpa using e
            refine .cons ⟨h, fun z => ?_⟩ (ih nd.2 e2)
            subst z
            exact absurd (List.mem_of_getElem? e2) nd.1
      exact go base nd1.2 hb
    refine Paired.mapP full fun c row' ⟨y1, y2⟩ => ?_
    by_cases n : c = b
    · rw [y2 n, n]
      exact ⟨ws ++ [v], upd_same, z2.append (.one r)⟩
    · exact y1 n
  · obtain ⟨f1, f2, f3, φ, f4⟩ := oa.out x hx
    by_cases n : x = b
    · subst n
      exact ⟨f1, f2, f3, _, upd_same⟩
    · exact ⟨f1, f2, f3, φ, by rw [upd_ne n]; exact f4⟩
end
end DL

namespace DL
variable {T : List (PySem.Addr × PySem.Str)} {Z : Zx T}
open PySem PySem.Spec PyProof.Rows L2 PySem.W
open Evl (Ex)
section
variable {X : Cx} {e b : Expr} {es : List Expr} {we wb : DE} {m : Nat} {p pos : Pos} {sts : List Stmt} {st : Stmt}
abbrev dMNew (i : Nat) (E : DEnds) (env : List SD) : Prop := bIf (noPar env i) (E.nx (env.set i (.dic (.mt [])))) False
theorem smnew (i : Nat) {x : Str} {pos' p2 : Pos} (hN : X.N.Nodup) (hi : X.N[i]? = some x := by rfl) (hx : Loc X.env.scope x := by first | exact Or.inl rfl | exact Or.inr rfl) (hs : swapsWith (.List [] p2) (some (.Name x pos')) pos.line X.env = pure false := by rfl)
    (hf : X.fn x = true ∨ X.env.scope.names.lookup x = some .local := by first | exact .inl rfl | exact .inr rfl) : PS X (.Assign [.Name x pos'] (.List [] p2) pos) (liftS X.K Z m (dMNew i)) := PS.of (ps_set hN hi hx (PE.toLs (pe_lst pa_nil)) hs hf) fun D σ H ⟨g, F, env, P, k, w, q⟩ => by
  obtain ⟨w1, w2⟩ := bIf_and w
  refine ⟨Nat.zero_le _, fun p hp => ⟨p, [], rfl, upd_same, ?_⟩⟩
  rw [upd_upd]
  exact q.nx _ _ F _ w2 (Ex.refl F) (k.newMt hp (noPar_of w1))
abbrev dMAdd (i : Nat) (E : DEnds) (env : List SD) : Prop := match env[i]? with
  | some (.dic (.mt rows)) => rows.length < 100000 ∧ E.nx (env.set i (.dic (.mt (rows ++ [[]]))))
  | _ => False
theorem smadd (i : Nat) {x : Str} {p0 apos cpos p2 : Pos} (hN : X.N[i]? = some x := by rfl) (hv : Vis X.env.scope x := by first | exact Or.inl rfl | exact Or.inr (Or.inl rfl) | exact Or.inr (Or.inr rfl)) (hd : (x == ("__debug__" : Str)) = false := by decide)
    (hcd : (x == ("__classdict__" : Str)) = false := by decide)
    (h1 : attributeBase (.Name x p0) "append" X.env (eval (.Name x p0) X.env) = eval (.Name x p0) X.env := by rfl)
    (h2 : ((backTo cpos (starEach [.List [] p2] X.env)).all (!·.1) && (backToKw cpos (keywordEach [] X.env)).all (·.1.isSome) && decide ([Expr.List [] p2].length + ([] : List Keyword).length + (if ([] : List Keyword).isEmpty then 0 else 1) < 30)) = true := by rfl)
    (h3 : (apos.endLine == cpos.line) = true := by rfl)
    (h4 : starEach [.List [] p2] X.env = (false, eval (.List [] p2) X.env) :: starEach [] X.env := by rfl) (h5 : (backTo cpos (starEach [] X.env)).any (·.1) = false := by rfl)
    (hs : swapsWith (.Call (.Attribute (.Name x p0) "append" apos) [.List [] p2] [] cpos) none pos.line X.env = pure false := by rfl) :
    PS X (.Expr (.Call (.Attribute (.Name x p0) "append" apos) [.List [] p2] [] cpos) pos) (liftS X.K Z m (dMAdd i)) :=
  PS.of (ps_expr (pe_bmLs PySem.F.slot_list_append PySem.F.type_list_append mt_appLs (pe_var hN hv hd hcd) (pa_cons (PE.toLs (pe_lst pa_nil)) pa_nil h4) h1 h2 h3 h4 h5) hs) fun D σ H ⟨g, F, env, P, k, w, q⟩ => by
    unfold dMAdd at w
    split at w
    · rename_i rows ex
      obtain ⟨hl, w⟩ := w
      obtain ⟨B, db⟩ := id k.dic
      obtain ⟨a, hs1, oa⟩ := db.at_ i _ ex
      refine ⟨_, hs1, ⟨a, _, rfl, oa.rel.1.1⟩, Nat.zero_le _, fun p hp => ⟨p, [], rfl, upd_same, ?_⟩⟩
      rw [upd_upd]
      obtain ⟨a', us, z1, z2, z3, z4, z5⟩ := k.addRow ex hp
      rw [hs1] at z1
      cases z1
      exact ⟨a, us, .ref p, rfl, rfl, by rw [upd_ne z2]; exact z3, by rw [z4]; exact Evl.sz_lt hl, q.nx _ σ F _ w (Ex.refl F) z5⟩
    · exact w.elim
def rowQ (rows : List (List PyData)) (y d : PyData) (K : List (List PyData) → Prop) : Prop := match y with
  | .int n => (match ixN rows.length n with
    | some j => (match rows[j]? with
      | some row => row.length < 100000 ∧ K (rows.set j (row ++ [d]))
      | none => False)
    | none => False)
  | _ => False
abbrev dMPut (i l : Nat) (wi : DE) (E : DEnds) (env : List SD) : Prop := match env[i]? with
  | some (.dic (.mt _)) => wi env fun y env1 => match env1[i]?, env1[l]? with
    | some (.dic (.mt rows)), some (.dat d) => rowQ rows y d fun rows' => E.nx (env1.set i (.dic (.mt rows')))
    | _, _ => False
  | _ => False
theorem smput (i l : Nat) {x y : Str} {p0 p1 py apos cpos : Pos} (hi : PE X b (liftE X.K Z wb)) (hN : X.N[i]? = some x := by rfl) (hv : Vis X.env.scope x := by first | exact Or.inl rfl | exact Or.inr (Or.inl rfl) | exact Or.inr (Or.inr rfl)) (hd : (x == ("__debug__" : Str)) = false := by decide)
    (hcd : (x == ("__classdict__" : Str)) = false := by decide) (hNy : X.N[l]? = some y := by rfl) (hvy : Vis X.env.scope y := by first | exact Or.inl rfl | exact Or.inr (Or.inl rfl) | exact Or.inr (Or.inr rfl)) (hdy : (y == ("__debug__" : Str)) = false := by decide)
    (hcdy : (y == ("__classdict__" : Str)) = false := by decide) (hpi : PlainIx b := by intro _ _; rfl)
    (h1 : attributeBase (.Subscript (.Name x p0) b p1) "append" X.env (eval (.Subscript (.Name x p0) b p1) X.env) = eval (.Subscript (.Name x p0) b p1) X.env := by rfl)
    (h2 : ((backTo cpos (starEach [.Name y py] X.env)).all (!·.1) && (backToKw cpos (keywordEach [] X.env)).all (·.1.isSome) && decide ([Expr.Name y py].length + ([] : List Keyword).length + (if ([] : List Keyword).isEmpty then 0 else 1) < 30)) = true := by rfl)
    (h3 : (apos.endLine == cpos.line) = true := by rfl)
    (h4 : starEach [.Name y py] X.env = (false, eval (.Name y py) X.env) :: starEach [] X.env := by rfl) (h5 : (backTo cpos (starEach [] X.env)).any (·.1) = false := by rfl)
    (hs : swapsWith (.Call (.Attribute (.Subscript (.Name x p0) b p1) "append" apos) [.Name y py] [] cpos) none pos.line X.env = pure false := by rfl) :
    PS X (.Expr (.Call (.Attribute (.Subscript (.Name x p0) b p1) "append" apos) [.Name y py] [] cpos) pos) (liftS X.K Z m (dMPut i l wb)) :=
  PS.of (ps_expr (pe_bmLs PySem.F.slot_list_append PySem.F.type_list_append mt_appLs (pe_ix ix_ls (pe_var hN hv hd hcd) hi hpi) (pa_cons (pe_var hNy hvy hdy hcdy) pa_nil h4) h1 h2 h3 h4 h5) hs) fun D σ H ⟨g, F, env, P, k, w, q⟩ => by
    unfold dMPut at w
    split at w
    · rename_i rows0 ex
      obtain ⟨a, hs1⟩ := k.ownAt ex
      refine ⟨_, hs1, g, F, env, _, k, w, fun yv env1 v F1 H1 p1 e1 k1 r1 => ?_⟩
      split at p1
      · rename_i rows d ex1 el
        unfold rowQ at p1
        split at p1
        · rename_i n
          split at p1
          · rename_i j ej
            split at p1
            · rename_i row er
              obtain ⟨hl, p1⟩ := p1
              cases r1.inv_int
              obtain ⟨u, y1, y2⟩ := k1.dat l d el
              obtain ⟨a', us, b', ws, z1, z2, z3, z4, z5, z6, z7⟩ := k1.putRow ex1 er y2
              rw [hs1] at z1
              cases z1
              refine ⟨a, us, n, .ref b', rfl, rfl, z2, ?_, ⟨b', ws, rfl, z5⟩, ?_⟩
              · unfold atI
                rw [z3, ej]
                exact z4
              · exact ⟨u, y1, b', ws, u, rfl, rfl, z5, by rw [z6]; exact Evl.sz_lt hl, q.nx _ σ F1 _ p1 e1 z7⟩
            · exact p1.elim
          · exact p1.elim
        · exact p1.elim
      · exact p1.elim
    · exact w.elim
theorem _root_.DL.Ok.freezeMt {K : PySem.W.Frag} {g : Gx Z} {F : Hp} {env : List SD} {σ : L2.St} {H : Hp} (k : Ok K g F env σ H) {i : Nat} {rows : List (List PyData)} (he : env[i]? = some (.dic (.mt rows))) (P : Program) (w0 : World) :
    ∃ (H' F' : Hp), (∀ od, RcO P w0 od H H') ∧ Ex F F' ∧ Ok K g F' (env.set i (.dat (.list (rows.map .list)))) σ H' := by
  classical
  obtain ⟨B, db⟩ := k.dic
  obtain ⟨a, hs, oa⟩ := db.at_ i _ he
  obtain ⟨⟨h3, nd⟩, hpr⟩ := oa.rel
  have nd1 := List.nodup_cons.mp nd
  -- what stands at each place
  have cont : ∀ x ∈ a :: B i, ∃ vs, H x = some (LsE x vs) ∧ (x = a → vs = (B i).map .ref) ∧ ∀ (j : Nat) (row : List PyData), (B i)[j]? = some x → rows[j]? = some row → DRs K F vs row := fun x hx => by
    rcases List.mem_cons.mp hx with rfl | hx
    · exact ⟨_, h3, fun _ => rfl, fun j row e _ => absurd (List.mem_of_getElem? e) nd1.1⟩
    · obtain ⟨j, hj⟩ := List.getElem?_of_mem hx
      have hjl : j < rows.length := by rw [← Paired.length hpr]; exact (List.getElem?_eq_some_iff.mp hj).1
      obtain ⟨us, z1, z2⟩ := pairedG hpr hj (List.getElem?_eq_getElem hjl)
      refine ⟨us, z1, fun z => absurd (z ▸ hx) nd1.1, fun j2 row e1 e2 => ?_⟩
      have := nodupG nd1.2 hj e1
      subst this
      rw [List.getElem?_eq_getElem hjl] at e2
      cases e2
      exact z2
  let c : Addr → List V := fun x => if h : x ∈ a :: B i then Classical.choose (cont x h) else []
  have cs : ∀ {x : Addr} (h : x ∈ a :: B i), H x = some (LsE x (c x)) ∧ (x = a → c x = (B i).map .ref) ∧ ∀ (j : Nat) (row : List PyData), (B i)[j]? = some x → rows[j]? = some row → DRs K F (c x) row := fun {x} h => by
    have e : c x = Classical.choose (cont x h) := dif_pos h
    rw [e]
    exact Classical.choose_spec (cont x h)
  let H' : Hp := fun x => if x ∈ a :: B i then some (.lst (c x)) else H x
  let F' : Hp := fun x => if x ∈ a :: B i then some (.lst (c x)) else F x
  have Hy : ∀ {x : Addr}, x ∈ a :: B i → H' x = some (.lst (c x)) := fun h => if_pos h
  have Hn : ∀ {x : Addr}, x ∉ a :: B i → H' x = H x := fun h => if_neg h
  have Fy : ∀ {x : Addr}, x ∈ a :: B i → F' x = some (.lst (c x)) := fun h => if_pos h
  have Fn : ∀ {x : Addr}, x ∉ a :: B i → F' x = F x := fun h => if_neg h
  have ex : Ex F F' := fun x o e => by
    rw [Fn fun h => by
      have := (oa.out x h).1
      rw [e] at this
      cases this]
    exact e
  have nl : ∀ {x : Addr} {vs : List V}, H x = some (.lst vs) → x ∉ a :: B i := fun {x vs} e h => by
    rw [(cs h).1] at e
    cases e
  have back : ∀ {l : Nat} {z : Own}, (env.set i (.dat (.list (rows.map .list))))[l]? = some (.dic z) → i ≠ l ∧ env[l]? = some (.dic z) := fun {l z} e => by
    rcases get_set e with ⟨_, z⟩ | ⟨n, z⟩
    · cases z
    · exact ⟨n, z⟩
  refine ⟨H', F', fun od x => ?_, ex, by simp [k.len], fun b u q => ?_, fun j e hj => ?_, fun j q us hj => ?_, fun j l q r us ws c z1 z2 z3 z4 => ?_, fun j b e => ?_, ⟨fun b o e n => ?_, tabs_to k.frame.tab (fun x ps e => ?_) fun x q e => ?_⟩, fun b u q => ?_, ⟨k.oldF.1.trans ex, fun b ps e => ?_⟩, fun b u e => ?_, B, fun j w e => ?_, fun j l w1 w2 b c e1 e2 h1 h2 n => ?_⟩
  · by_cases h : x ∈ a :: B i
    · exact .inr ⟨_, _, (cs h).1, Hy h, .inr ⟨_, rfl, rfl⟩⟩
    · exact .inl (Hn h)
  · by_cases h : b ∈ a :: B i
    · rw [Fy h] at q
      rw [Hy h]
      exact q
    · rw [Fn h] at q
      rw [Hn h]
      exact k.fh b u q
  · rcases get_set hj with ⟨rfl, q⟩ | ⟨n, q⟩
    · cases q
      refine ⟨_, hs, .lst (RdL.of (by rw [Fy List.mem_cons_self, (cs List.mem_cons_self).2.1 rfl])) ?_⟩
      have all : ∀ (n : Nat) (bs : List Addr) (rs : List (List PyData)), bs.length = rs.length → (∀ j b, bs[j]? = some b → (B i)[n + j]? = some b) → (∀ j r, rs[j]? = some r → rows[n + j]? = some r) → DRs K F' (bs.map V.ref) (rs.map PyData.list) := fun n bs => by
        induction bs generalizing n with
        | nil =>
          intro rs hl _ _
          cases rs with
          | nil => exact .nil
          | cons _ _ => simp at hl
        | cons b bs ih =>
          intro rs hl hb hr
          cases rs with
          | nil => simp at hl
          | cons r rs =>
            have b0 := hb 0 b rfl
            have r0 := hr 0 r rfl
            have mb : b ∈ a :: B i := List.mem_cons_of_mem _ (List.mem_of_getElem? b0)
            refine .cons (.lst (RdL.of (Fy mb)) (((cs mb).2.2 _ _ b0 r0).mono ex)) (ih (n + 1) rs (by simpa using hl) (fun j c hj => ?_) fun j c hj => ?_)
            · have := hb (j + 1) c (by simpa using hj)
              rwa [show n + (j + 1) = n + 1 + j by omega] at this
            · have := hr (j + 1) c (by simpa using hj)
              rwa [show n + (j + 1) = n + 1 + j by omega] at this
      exact all 0 (B i) rows (Paired.length hpr) (fun j b hj => by simpa using hj) fun j r hj => by simpa using hj
    · obtain ⟨v, z1, z2⟩ := k.dat j e q
      exact ⟨v, z1, z2.mono ex⟩
  · rcases get_set hj with ⟨_, q⟩ | ⟨n, q⟩
    · cases q
    · obtain ⟨b, ws, z1, z2, z3, z4, z5⟩ := k.cel j _ us q
      exact ⟨b, ws, z1, by rw [Fn (nl z3)]; exact z2, by rw [Hn (nl z3)]; exact z3, z4.mono ex, z5⟩
  · rcases get_set z1 with ⟨_, e⟩ | ⟨n1, e1⟩
    · cases e
    rcases get_set z2 with ⟨_, e⟩ | ⟨n2, e2⟩
    · cases e
    exact k.sep j l q r us ws c e1 e2 z3 z4
  · obtain ⟨ys, q⟩ := k.pin j b e
    have n : i ≠ j := fun z => by subst z; rw [he] at q; cases q
    exact ⟨ys, by rw [set_ne n]; exact q⟩
  · rw [Hn fun h => by
      have := (oa.out b h).2.1
      rw [e] at this
      cases this]
    exact k.frame.stay b o e n
  · rw [Hn fun h => by rw [(cs h).1] at e; cases e]
    exact e
  · rw [Hn fun h => by rw [(cs h).1] at e; exact codeO_ls (Option.some.inj e)]
    exact e
  · by_cases h : b ∈ a :: B i
    · exact .inr (oa.out b h).2.1
    · rw [Fn h] at q
      exact k.newF b u q
  · by_cases h : b ∈ a :: B i
    · rw [Fy h] at e
      cases e
    · rw [Fn h] at e
      exact k.oldF.2 b ps e
  · obtain ⟨z1, z2, z3⟩ := k.prot b u e
    have nb : b ∉ a :: B i := fun h => by
      have := (oa.out b h).2.2.1
      rw [e] at this
      cases this
    refine ⟨by rw [Hn nb]; exact z1, by rw [Fn nb]; exact z2, fun j q us hj => ?_⟩
    rcases get_set hj with ⟨_, z⟩ | ⟨_, z⟩
    · cases z
    · exact z3 j q us z
  · obtain ⟨n, e⟩ := back e
    obtain ⟨b, z1, z2⟩ := db.at_ j w e
    have sep := db.sep j i w (.mt rows) b a e he z1 hs fun q => n q.symm
    refine ⟨b, z1, z2.rel.keep ex fun y hy => Hn (sep y hy), fun y hy => ?_⟩
    obtain ⟨y1, y2, y3, y4⟩ := z2.out y hy
    exact ⟨by rw [Fn (sep y hy)]; exact y1, y2, y3, by rw [Hn (sep y hy)]; exact y4⟩
  · exact db.sep j l w1 w2 b c (back e1).2 (back e2).2 h1 h2 n
abbrev dFrzW (i : Nat) (w : DS) (E : DEnds) (env : List SD) : Prop := match env[i]? with
  | some (.dic (.kk ds)) => w E (env.set i (.dat (.dict ds)))
  | some (.dic (.mt rows)) => w E (env.set i (.dat (.list (rows.map .list))))
  | _ => False
theorem ssfreezeW {w : DS} (i : Nat) (hP : Z.P = X.prog) (hW : Z.w = X.w) (h : PSs X sts (liftS X.K Z m w)) : PSs X sts (liftS X.K Z m (dFrzW i w)) := PSs.of (PSs.rc h) fun D σ H ⟨g, F, env, P, k, w, q⟩ => by
  unfold dFrzW at w
  split at w
  · rename_i ds e
    obtain ⟨a, vs, h1, h2, h3, h4⟩ := k.kkAt e
    refine ⟨fun od => upd H a (.frz (od a) (.dK vs)), fun od => ⟨fun x => ?_, ?_⟩⟩
    · by_cases n : x = a
      · subst n
        rw [hP, hW] at h3
        exact .inr ⟨_, _, h3, upd_same, .inl ⟨vs, rfl, rfl⟩⟩
      · exact .inl (upd_ne n)
    · obtain ⟨ex, k1⟩ := k.freezeKk e h1 h3 h4 (od a)
      exact ⟨g, _, _, P, k1, w, q.ex ex⟩
  · rename_i rows e
    obtain ⟨H', F', r, ex, k1⟩ := k.freezeMt e X.prog X.w
    exact ⟨fun _ => H', fun od => ⟨r od, g, F', _, P, k1, w, q.ex ex⟩⟩
  · exact w.elim
end
end DL

namespace DL
variable {T : List (PySem.Addr × PySem.Str)} {Z : Zx T}
open PySem PySem.Spec PyProof.Rows L2 PySem.W
open Evl (Ex)
section
variable {K : PySem.W.Frag} {g : Gx Z} {F F' : Hp} {env env' : List SD} {σ : L2.St} {H H' : Hp} {B : Nat → List Addr}
theorem DicsB.sub (d : DicsB K g F env σ H B) (h : ∀ (i : Nat) (w : Own), env'[i]? = some (.dic w) → env[i]? = some (.dic w)) : DicsB K g F env' σ H B :=
  ⟨fun i w e => d.at_ i w (h i w e), fun i j w w' a b e1 e2 => d.sep i j w w' a b (h i w e1) (h j w' e2)⟩
theorem wipe_up {vs : List Nat} {i : Nat} {v : V} (e : (wipe σ vs)[i]? = some (some v)) : σ[i]? = some (some v) := by
  rw [wipe_get] at e
  by_cases hj : i ∈ vs
  · rw [if_pos hj] at e
    cases q : σ[i]? with
    | none => rw [q] at e; cases e
    | some o => rw [q] at e; cases e
  · rw [if_neg hj] at e
    exact e
theorem DicsB.unwiped {vs : List Nat} (d : DicsB K g F env (wipe σ vs) H B) : DicsB K g F env σ H B :=
  ⟨fun i w e => let ⟨a, h1, h2⟩ := d.at_ i w e; ⟨a, wipe_up h1, h2⟩, fun i j w w' a b e1 e2 s1 s2 => by
    obtain ⟨a', y1, _⟩ := d.at_ i w e1
    obtain ⟨b', y2, _⟩ := d.at_ j w' e2
    have z1 := wipe_up y1
    have z2 := wipe_up y2
    rw [s1] at z1
    rw [s2] at z2
    cases z1
    cases z2
    exact d.sep i j w w' a b e1 e2 y1 y2⟩
end
section
variable {X : Cx} {tg iter : Expr} {scope : Scope} {own : List (Str × Nat)} {pos p2 : Pos} {wi : DI} {m : Nat}
end
end DL

namespace DL
variable {T : List (PySem.Addr × PySem.Str)} {Z : Zx T}
open PySem PySem.Spec PyProof.Rows L2
open Evl (Ex)
/-- x.append([]) -/
def maQ (rows : List (List PyData)) (K : List (List PyData) → Prop) : Prop := rows.length < 100000 ∧ K (rows ++ [[]])
def rEmpD (n : Bool) : R2 := fun x y H Q => ∃ a b o o' kvs, x = .ref a ∧ y = .ref b ∧ H a = some (.frz o (.dK kvs)) ∧ H b = some (.frz o' (.dK [])) ∧ Q (.bl (kvs.isEmpty != n)) H
section
variable {X : Cx} {K : PySem.W.Frag}
theorem len_emp {vs : List (Key × Value)} {kvs : List (Key × V)} (h : kvs.length = vs.length) : (vs.length == ([] : List (Key × Value)).length && true) = kvs.isEmpty := by
  cases kvs with
  | nil => cases vs with
    | nil => rfl
    | cons _ _ => simp at h
  | cons _ _ => cases vs with
    | nil => simp at h
    | cons _ _ => rfl
theorem op_empDN (hu : X.A.units < cLine) : OpR X (compareOp .NotEq) (rEmpD true) := by
  intro pins s σ H x y v u Q I rx ry h
  obtain ⟨a, b, o, o', kvs, rfl, rfl, ea, eb, q⟩ := h
  obtain rfl : v = Value.ref a := rx
  obtain rfl : u = Value.ref b := ry
  obtain ⟨_, ya, va, ra, da⟩ := dk_rd I.hok (.inr ⟨o, ea⟩)
  obtain ⟨_, yb, vb, rb, db⟩ := dk_rd I.hok (.inr ⟨o', eb⟩)
  cases rb
  refine PySem.W.keq_ne (knd := mixKind X.prog X.w) (r := true) ya yb da db hu (fun hl => ?_) ⟨.bl (!kvs.isEmpty), H, I, ?_, ?_⟩
  · have : va = [] := List.eq_nil_of_length_eq_zero hl
    subst this
    exact .nil
  · rw [len_emp ra.length]; rfl
  · rwa [show ∀ b : Bool, (b != true) = !b by decide] at q
/-- d == {}, d != {} -/
def oEmpD (n : Bool) (x y : PyData) (P : PyData → Prop) : Prop := match x, y with
  | .dict ds, .dict [] => isMap ds = true ∧ P (.bool (ds.isEmpty != n))
  | _, _ => False
theorem dm_emp {F : Hp} {vs : List (Key × V)} {ds : KVM} (r : DM K F vs ds) : vs.isEmpty = ds.isEmpty := by cases r <;> rfl
theorem opd_empD {n : Bool} : OpD K (rEmpD n) (oEmpD n) := by
  intro _ _ g F env σ H vx vy dx dy P Q k rx ry p q
  unfold oEmpD at p
  split at p
  · obtain ⟨hm, p⟩ := p
    obtain ⟨a, o, vs, rfl, h1, h2⟩ := rx.inv_map hm
    obtain ⟨b, o', ws, rfl, h3, h4⟩ := ry.inv_map rfl
    cases h4
    exact ⟨a, b, o, o', vs, rfl, rfl, k.fh _ _ h1, k.fh _ _ h3, q _ _ F H (by rw [dm_emp h2]; exact p) (Ex.refl F) k (.bl _)⟩
  · exact p.elim
end
section
variable {P : Program} {w : World} {K : PySem.W.Frag} {mg : Str → Option Value} {base : Heap}
end
end DL

namespace DL
variable {T : List (PySem.Addr × PySem.Str)} {Z : Zx T}
open PySem PySem.Spec PyProof.Rows L2
open Evl (Ex)
section
variable {X : Cx}
end
section
variable {X : Cx} {a : Expr} {wa : DE} {p pos p1 kp : Pos} {nm : Option Str} {j : Nat}
end
end DL

namespace DL
variable {T : List (PySem.Addr × PySem.Str)} {Z : Zx T}
open PySem PySem.Spec PyProof.Rows L2
open Evl (Ex)
section
variable {X : Cx} {e : Expr}
end
end DL

namespace DL
variable {T : List (PySem.Addr × PySem.Str)} {Z : Zx T}
open PySem PySem.Spec PyProof.Rows L2
open Evl (Ex)
section
variable {X : Cx} {a : Expr} {wa : DE} {pos p p2 pos2 : Pos}
end
end DL

namespace DL
variable {T : List (PySem.Addr × PySem.Str)} {Z : Zx T}
open PySem PySem.Spec PySem.W PySem.Calls PyProof.Rows L2
open Evl (Ex)
section
variable {prog : Program} {w : World} {A : Around} {E : Value → Shared → Prop} {s : Shared}
end
section
variable {X : Cx}
end
section
variable {X : Cx} {a : Expr} {wa : DE} {p pos p1 kp : Pos} {nm : Option Str} {j : Nat}
end
end DL

namespace DL
variable {T : List (PySem.Addr × PySem.Str)} {Z : Zx T}
open PySem PySem.Spec PyProof.Rows L2 PySem.W
open Evl (Ex)
section
variable {X : Cx}
end
section
variable {X : Cx} {a : Expr} {wa : DE} {p pos : Pos}
end
end DL

namespace DL
variable {T : List (PySem.Addr × PySem.Str)} {Z : Zx T}
open PySem PySem.Spec PyProof.Rows L2 PySem.W
open Evl (Ex)
/-- a def of the top that returns a key of its one parameter -/
structure KeyD (K : PySem.W.Frag) (mg : Str → Option Value) (y : Str) (kb : Kx) : Prop where
  ex : ∃ (qual x : Str) (st : Stmt) (fd : FuncData) (e : Expr) (pos : Pos), Fun K qual qual st (He.ga K y) fd ∧ LamK (defScope st) x ∧ defBody st = [.Return (some e) pos] ∧ KbE x e kb ∧ Binds K fd [x] [] ∧ (x == ("__debug__" : Str)) = false
  glo : mg y = some (.ref (He.ga K y))
section
variable {X : Cx} {pins : List (Addr × Obj)} {σ : L2.St} {H : Hp} {s : Shared}
end
section
variable {X : Cx} {a : Expr} {wa : DE} {p pos kpos p2 : Pos} {y : Str}
end
end DL

namespace DL
variable {T : List (PySem.Addr × PySem.Str)} {Z : Zx T}
open PySem PySem.Spec PyProof.Rows L2 PySem.W
open Evl (Ex)
section
variable {X : Cx}
end
section
variable {X : Cx} {x : Str} {p p0 pos apos cpos : Pos}
end
end DL

namespace DL
variable {T : List (PySem.Addr × PySem.Str)} {Z : Zx T}
open PySem PySem.Spec PyProof.Rows L2 PySem.W
open Evl (Ex)
end DL

namespace RZ3
open PySem RZ
open PySem.Sem (wp)
theorem typeCall_zip_3 (a b c : Value) : checkTypeCall "zip" ⟨[a, b, c], []⟩ = pure () := by kernel_rfl
theorem newCall_zip_3 (a b c : Value) : checkBuiltinCall "zip.__new__" ⟨[.type "zip", a, b, c], []⟩ = pure () := by kernel_rfl
theorem args_object_init_4 (a b c d : Value) : argsOk "object.__init__" ⟨[a, b, c, d], []⟩ := by
  unfold argsOk; rw [signature?_of (id := "object.__init__") (n := ['_', '_', 't', 'i', 'n', 'i', '_', '_']) (o := ['t', 'c', 'e', 'j', 'b', 'o']) (by kernel_rfl) F.owner_object]; kernel_rfl
abbrev IsTrip (h : Heap) (T : Addr) (a b c : Value) : Prop := h.get? T = some { cls := .type "tuple", data := .seq #[a, b, c] }
structure Apart (z TI TO i1 i2 i3 l1 l2 l3 : Addr) : Prop where
  TI_z : TI ≠ z
  TO_z : TO ≠ z
  i1_z : i1 ≠ z
  i2_z : i2 ≠ z
  i3_z : i3 ≠ z
  TI_TO : TI ≠ TO
  TI_i1 : TI ≠ i1
  TI_i2 : TI ≠ i2
  TI_i3 : TI ≠ i3
  TO_i1 : TO ≠ i1
  TO_i2 : TO ≠ i2
  TO_i3 : TO ≠ i3
  i1_i2 : i1 ≠ i2
  i1_i3 : i1 ≠ i3
  i2_i3 : i2 ≠ i3
  l1_z : l1 ≠ z
  l1_TO : l1 ≠ TO
  l1_i1 : l1 ≠ i1
  l1_i2 : l1 ≠ i2
  l1_i3 : l1 ≠ i3
  l2_z : l2 ≠ z
  l2_TO : l2 ≠ TO
  l2_i1 : l2 ≠ i1
  l2_i2 : l2 ≠ i2
  l2_i3 : l2 ≠ i3
  l3_z : l3 ≠ z
  l3_TO : l3 ≠ TO
  l3_i1 : l3 ≠ i1
  l3_i2 : l3 ≠ i2
  l3_i3 : l3 ≠ i3
section
variable {prog : Program} {w : World} {A : Around} {E : Value → Shared → Prop} {s : Shared}
theorem wpAny_updateSeq_trip {T : Addr} {a b c x : Value} {k : Nat} {Q : Unit → Shared → Prop} (hT : IsTrip s.heap T a b c)
    (h : ∀ h', h'.get? T = some { cls := .type "tuple", data := .seq ((#[a, b, c] : Array Value).setIfInBounds k x) } → Heap.SameBut T s.heap h' → Q () { s with heap := h' }) :
    wpAny (model prog w) A (updateSeq T (·.setIfInBounds k x)) Q E s := by
  refine wpAny_updateSeq hT rfl (h _ ?_ (Heap.SameBut.update ..))
  rw [Heap.get?_update_self _ hT rfl]
  simp [Obj.mapSeq]
end
section
variable {prog : Program} {w : World} {A : Around} {E : Value → Shared → Prop} {s : Shared}
end
end RZ3

namespace DL
variable {T : List (PySem.Addr × PySem.Str)} {Z : Zx T}
open PySem PySem.Spec PyProof.Rows L2 RZ3
open Evl (Ex)
section
variable {X : Cx} {a b c : Expr} {was : DA} {pos : Pos}
end
end DL

namespace DL
variable {T : List (PySem.Addr × PySem.Str)} {Z : Zx T}
open PySem PySem.Spec PyProof.Rows L2
open Evl (Ex)
section
variable {X : Cx} {a b c : Expr} {was : DA} {pos : Pos}
end
end DL

namespace DL
variable {T : List (PySem.Addr × PySem.Str)} {Z : Zx T}
open PySem PySem.Spec PyProof.Rows L2 PySem.W
open Evl (Ex)
section
variable {H : Hp} {p a : Addr} {o : HO}
end
section
variable {K : PySem.W.Frag} {g : Gx Z} {F : Hp} {env : List SD} {σ : L2.St} {H : Hp}
end
abbrev DPs := List SD → (List (Key × PyData) → List SD → Prop) → Prop
abbrev PrR (K : PySem.W.Frag) (F : Hp) : List (Key × PyData) → List (Key × V) → Prop := Paired fun p u => p.1 = u.1 ∧ DR K F u.2 p.2
theorem PrR.mono {K : PySem.W.Frag} {F F' : Hp} (e : Ex F F') {ps : List (Key × PyData)} {us : List (Key × V)} (h : PrR K F ps us) : PrR K F' ps us := Paired.mapP h fun _ _ ⟨h1, h2⟩ => ⟨h1, h2.mono e⟩
def liftPs (K : PySem.W.Frag) (Z : Zx T) (n : Nat) (w : DPs) (trs : List (TE × TE)) : Prop := ∀ (σ : L2.St) (H : Hp) (Q : List (V × V) → Hp → Prop),
  (∃ (g : Gx Z) (F : Hp) (env : List SD) (P : List (Key × PyData) → List SD → Prop), Ok K g F env σ H ∧ w env P ∧
    ∀ ps env' F' H' us, P ps env' → Ex F F' → Ok K g F' env' σ H' → PrR K F' ps us → us.length = n → Q (us.map fun kv => (kV kv.1, kv.2)) H') → tPairs trs σ H Q
def PP (X : Cx) (Z : Zx T) (pos : Pos) (keys : List (Option Expr)) (values : List Expr) (w : DPs) : Prop := ∃ trs, PPs X pos keys values trs ∧ liftPs X.K Z keys.length w trs
section
variable {X : Cx} {pos : Pos} {k v : Expr} {ks : List (Option Expr)} {vs : List Expr} {wk wv : DE} {w : DPs}
end
section
variable {X : Cx} {o e : Expr} {apos cpos : Pos} {td ty : TE}
end
/-- a dict's keys and values -/
def keysM (ds : KVM) : List (Key × PyData) := ds.filterMap fun p => (kyOf p.1).map fun k => (k, p.2)
theorem DM.pairs {K : PySem.W.Frag} {F : Hp} : ∀ {us : List (Key × V)} {ds : KVM}, DM K F us ds → PrR K F (keysM ds) us ∧ ds.length = us.length
  | _, _, .nil => ⟨.nil, rfl⟩
  | _, _, .int a b => by
    obtain ⟨h1, h2⟩ := DM.pairs b
    exact ⟨.cons ⟨rfl, a⟩ h1, by rw [List.length_cons, List.length_cons, h2]⟩
  | _, _, .str a b => by
    obtain ⟨h1, h2⟩ := DM.pairs b
    exact ⟨.cons ⟨rfl, a⟩ h1, by rw [List.length_cons, List.length_cons, h2]⟩
section
variable {X : Cx} {e : Expr} {m : Nat} {pos : Pos}
end
end DL

namespace DL
variable {T : List (PySem.Addr × PySem.Str)} {Z : Zx T}
open PySem PySem.Spec PyProof.Rows L2 PySem.W
open Evl (Ex)
open PySem.SeqAt in
section
end
section
variable {X : Cx} {a b : Expr} {wa wb : DE} {pos : Pos} {K : PySem.W.Frag}
end
end DL

namespace DL
variable {T : List (PySem.Addr × PySem.Str)} {Z : Zx T}
open PySem PySem.Spec PyProof.Rows L2 PySem.W
open Evl (Ex)
section
variable {K : PySem.W.Frag} {g : Gx Z} {F : Hp} {env : List SD} {σ : L2.St} {H : Hp}
end
section
variable {X : Cx} {m : Nat} {pos : Pos}
end
end DL

namespace DL
variable {T : List (PySem.Addr × PySem.Str)} {Z : Zx T}
open PySem PySem.Spec PyProof.Rows L2 PySem.W
open Evl (Ex)
section
variable {X : Cx} {e : Expr} {es : List Expr} {pos p : Pos} {was : DA} {K : PySem.W.Frag}
end
end DL

namespace DL
variable {T : List (PySem.Addr × PySem.Str)} {Z : Zx T}
open PySem PySem.Spec PyProof.Rows L2 PySem.W
open Evl (Ex)
section
variable {X : Cx} {tg iter : Expr} {scope : Scope} {own : List (Str × Nat)} {pos p2 : Pos} {wi : DI} {m : Nat}
end
section
variable {X : Cx} {e : Expr} {m : Nat} {pos : Pos}
end
end DL

namespace DL
variable {T : List (PySem.Addr × PySem.Str)} {Z : Zx T}
open PySem PySem.Spec PyProof.Rows L2
open Evl (Ex)
section
variable {P : Program} {w : World} {A : Around} {E : Value → Shared → Prop} {s : Shared}
end
section
variable {X : Cx} {a : Expr} {wa : DE} {p p2 pos pos2 : Pos}
end
end DL

namespace RZ3A
open PySem RZ
open PySem.Sem (wp)
open RZ3 (typeCall_zip_3 newCall_zip_3 args_object_init_4 IsTrip Apart wpAny_updateSeq_trip)
/-- a list or a tuple, and its iterator -/
def SqA (b : Bool) (h : Heap) (l : Addr) (xs : Array Value) : Prop := match b with
  | true => h.IsList l xs
  | false => h.IsTuple l xs
def ItA (b : Bool) (h : Heap) (i l : Addr) (k : Nat) : Prop := match b with
  | true => h.IsListIter i l k
  | false => h.IsTupleIter i l k
theorem SqA.push {b : Bool} {h : Heap} {a : Addr} {items : Array Value} (x : SqA b h a items) (o : Obj) : SqA b (h.push o) a items := by
  cases b with
  | true => exact Heap.IsList.push x o
  | false => exact Heap.IsTuple.push x o
theorem ItA.at {b : Bool} {h h' : Heap} {a l : Addr} {i : Nat} (x : ItA b h a l i) (e : ∀ o, h.get? a = some o → h'.get? a = some o) : ItA b h' a l i := by
  cases b with
  | true => exact Heap.IsListIter.at x e
  | false => exact Heap.IsTupleIter.at x e
theorem ItA.obj {b : Bool} {h : Heap} {a l : Addr} {i : Nat} (x : ItA b h a l i) : ∃ o, h.get? a = some o ∧ o.data = .fields #[.ref l, .int i 0] := by
  cases b with
  | true => obtain ⟨o, h1, _, h2⟩ := x; exact ⟨o, h1, h2⟩
  | false => obtain ⟨o, h1, _, h2⟩ := x; exact ⟨o, h1, h2⟩
theorem SqA.obj {b : Bool} {h : Heap} {a : Addr} {xs : Array Value} (x : SqA b h a xs) : ∃ o, h.get? a = some o := by
  cases b with
  | true => obtain ⟨o, h1, _⟩ := x; exact ⟨o, h1⟩
  | false => obtain ⟨o, h1, _⟩ := x; exact ⟨o, h1⟩
section
variable {prog : Program} {w : World} {A : Around} {E : Value → Shared → Prop} {s : Shared}
end
section
variable {prog : Program} {w : World} {A : Around} {E : Value → Shared → Prop} {s : Shared}
end
end RZ3A

namespace DL
variable {T : List (PySem.Addr × PySem.Str)} {Z : Zx T}
open PySem PySem.Spec PyProof.Rows L2 RZ3A
open RZ3 (IsTrip Apart)
open Evl (Ex)
section
variable {X : Cx} {a b c : Expr} {was : DA} {pos : Pos}
end
end DL

namespace DL
variable {T : List (PySem.Addr × PySem.Str)} {Z : Zx T}
open PySem PySem.Spec PyProof.Rows L2
open Evl (Ex)
end DL

namespace DL
variable {T : List (PySem.Addr × PySem.Str)} {Z : Zx T}
open PySem PySem.Spec PyProof.Rows L2 PySem.W
open Evl (Ex)
section
variable {X : Cx} {a : Expr} {wa : DE} {p pos : Pos}
end
end DL

namespace DL
variable {T : List (PySem.Addr × PySem.Str)} {Z : Zx T}
open PySem PySem.Spec PyProof.Rows L2 PySem.W
open Evl (Ex)
section
variable {X : Cx} {e : Expr} {te : TE} {p apos cpos pos : Pos}
end
section
variable {K : PySem.W.Frag} {g : Gx Z} {env : List SD} {σ : L2.St}
end
section
variable {X : Cx} {a : Expr} {wa : DE} {p apos cpos pos : Pos}
end
end DL

namespace DL
variable {T : List (PySem.Addr × PySem.Str)} {Z : Zx T}
open PySem PySem.Spec PyProof.Rows L2 PySem.W
open Evl (Ex)
section
variable {X : Cx} {a b : Expr} {was : DA} {pos : Pos}
end
end DL

namespace DL
open PySem PySem.Spec PyProof.Rows L2
section
variable {K : PySem.W.Frag} {g : Addr → Option Obj} {n : Nat} {o : Option Obj}
end
end DL

namespace DL
variable {T : List (PySem.Addr × PySem.Str)} {Z : Zx T}
open PySem PySem.Spec PyProof.Rows L2 PySem.W
open Evl (Ex)
section
variable {K : PySem.W.Frag} {F F1 F2 : Hp}
end
section
variable {K : PySem.W.Frag} {g : Gx Z} {F F2 : Hp} {env : List SD} {σ : L2.St} {H : Hp}
end
section
variable {X : Cx} {e : Expr}
end
end DL

namespace DL
open PySem PySem.Spec PyProof.Rows L2 HotX

section
variable {prog : Program} {w : World} {A : Around} {E : Value → Shared → Prop} {s : Shared}
end
end DL

namespace DL
variable {T : List (PySem.Addr × PySem.Str)} {Z : Zx T}
open PySem PySem.Spec PyProof.Rows L2 HotX
open Evl (Ex)
/-- the caught one, tracked -/
abbrev XC (C e : Addr) : HO := .ext (ExcAt C e)
/-- an iterator beside the caught one -/
def ItH (J : It) (C e : Addr) : It := ⟨fun i H => J.go i H ∧ H e = some (XC C e), fun i H x H' => J.yld i H x H' ∧ H' e = some (XC C e), fun i H => J.stop i H ∧ H e = some (XC C e)⟩
structure TurnH (P : Program) (w : World) (K : PySem.W.Frag) (tg : Expr) (J : It) (fp : List Addr) (it : Addr) (tn : Nat → Heap → Prop) (C e : Addr) : Prop where
  mem : it ∈ fp
  obj : ∀ i h, tn i h → ∀ b ∈ fp, ∃ o, h.get? b = some o ∧ ∀ v, o.data ≠ .cell v
  keep : ∀ i h h', tn i h → (∀ b ∈ fp, ∀ o, h.get? b = some o → h'.get? b = some o) → tn i h'
  item : ∀ (X : Cx), X.prog = P → X.w = w → X.K = K → ∀ (i : Nat) (pins : List (Addr × Obj)) (s : Shared) (σ : L2.St) (H : Hp) (E : Value → Shared → Prop), Inv X pins σ H s → (∀ b ∈ fp, FpOk X pins H b) → tn i s.heap → J.go i H →
    wpAny (model P w) X.A (pyNext (.ref it)) (fun r s1 => ∃ u, r = some u ∧
      wpAny (model P w) X.A (letOwnedTupleGo tg (.ref it) u) (fun _ s2 => ∃ x H', Inv X pins σ H' s2 ∧ RelV x u ∧ J.yld i H x H' ∧ tn (i + 1) s2.heap ∧ ∀ b ∈ fp, H' b = none) E s1) E s
  done : ∀ (X : Cx), X.prog = P → X.w = w → X.K = K → X.A.handled = some (.ref e) → ∀ (i : Nat) (pins : List (Addr × Obj)) (s : Shared) (σ : L2.St) (H : Hp) (E : Value → Shared → Prop), Inv X pins σ H s → (∀ b ∈ fp, FpOk X pins H b) → tn i s.heap → J.stop i H → H e = some (XC C e) →
    wpAny (model P w) X.A (pyNext (.ref it)) (fun r s1 => r = none ∧ Inv X pins σ H s1) E s
  self : ∀ (A : Around) (i : Nat) (s : Shared) (Q : Value → Shared → Prop) (E : Value → Shared → Prop), tn i s.heap → Q (.ref it) s → wpAny (model P w) A (pyIter (.ref it)) Q E s
  has : ∀ i H x H', J.yld i H x H' → H e = some (XC C e) → H' e = some (XC C e)
def PIEH (X : Cx) (pins : List (Addr × Obj)) (σ : L2.St) (tg : Expr) (R : It → Hp → Prop) (C e : Addr) (itv : Value) (s2 : Shared) : Prop :=
  ∃ (it : Addr) (fp : List Addr) (tn : Nat → Heap → Prop) (J : It) (H' : Hp), itv = .ref it ∧ Inv X pins σ H' s2 ∧ TurnH X.prog X.w X.K tg J fp it tn C e ∧ tn 0 s2.heap ∧ (∀ b ∈ fp, FpOk X pins H' b) ∧ R (ItH J C e) H'
structure PIH (X : Cx) (tg iter : Expr) (wi : TI) (C e : Addr) : Prop where
  run : ∀ (pins : List (Addr × Obj)) (s : Shared) (σ : L2.St) (H : Hp) (R : It → Hp → Prop), Inv X pins σ H s → wi σ H R →
    wpAny (model X.prog X.w) X.A (eval iter X.env) (fun v s1 => wpAny (model X.prog X.w) X.A (pyIter v) (PIEH X pins σ tg R C e) X.xe s1) X.xe s
structure PGH (X : Cx) (target : Expr) (t : TG) (C e : Addr) : Prop where
  run : ∀ (pins : List (Addr × Obj)) (s : Shared) (σ : L2.St) (H : Hp) (v : V) (u : Value) (Q : L2.St → Hp → Prop), Inv X pins σ H s → H e = some (XC C e) → RelV v u → t v σ H Q →
    wpAny (model X.prog X.w) X.A (assign target X.env u) (fun _ s' => ∃ σ' H', Inv X pins σ' H' s' ∧ Q σ' H') X.xe s
section
variable {X : Cx} {pins : List (Addr × Obj)} {σ : L2.St} {H : Hp} {s : Shared}
end
theorem WalkD.hot {K : PySem.W.Frag} {b : Bool} {F : Hp} {J : It} {items : List PyData} {C e : Addr} (w : WalkD K b F J items) (hF : F e = some (XC C e)) : WalkD K b F (ItH J C e) items := by
  obtain ⟨G, Y, wk, hG, hY⟩ := w
  exact ⟨fun H => G H ∧ H e = some (XC C e), Y, ⟨fun i H hi q => ⟨wk.goes i H hi q.1, q.2⟩, fun H q => ⟨wk.stops H q.1, q.2⟩, fun i H x H' hi q y => wk.yields i H x H' hi q.1 y.1⟩, fun H e => ⟨hG H e, e _ _ hF⟩, hY⟩
section
variable {X : Cx} {a b : Expr} {was : DA} {pos : Pos}
end
section
variable {X : Cx} {elt tg iter : Expr} {ifs : List Expr} {scope : Scope} {own : List (Str × Nat)} {pos : Pos} {wi : DI} {t : CT} {c : DT} {we : DE} {m : Nat} {I S : Type} {dec : List SD → Option (I × S)} {emb : I → S → List SD} {qb : PyData → I → S → (I → S → Prop) → (PyData → I → S → Prop) → Prop}
end
end DL

namespace DL
variable {T : List (PySem.Addr × PySem.Str)} {Z : Zx T}
open PySem PySem.Spec PyProof.Rows L2
open Evl (Ex)
section
variable {X : Cx} {m i : Nat} {pos pos' np : Pos} {n : Str} {body suite : List Stmt} {b₀ : Stmt} {wb : RD → DS} {ws : DS}
end
/-- the caught one is fixed at the call -/
def HotF (A : Around) (F : Hp) : Prop := ∃ e C, A.handled = some (.ref e) ∧ F e = some (XC C e)
def spDH (A : Around) (T : List (Addr × Str)) (K : PySem.W.Frag) (S : DSp) (vs : List V) (H : Hp) (Q : VK) : Prop := ∃ (F : Hp) (as : List SD) (P : SD → List SD → Prop), HotF A F ∧ ArgsOk T K F H vs as ∧ S as P ∧
  ∀ r as' v F' H', P r as' → PostOk T K F H vs as F' H' as' v r → Q v H'
/-- as FnG, while a refusal is handled -/
structure FnC (P : Program) (w : World) (K : PySem.W.Frag) (mg : Str → Option Value) (base : Heap) (T : List (Addr × Str)) (k : Nat) (f : Addr) (fd : FuncData) (ps : List Str) (S : DSp) : Prop where
  len : ∀ as Q, S as Q → as.length = ps.length
  go : ∀ (A : Around) (outer : List Env) (s : Shared) (H : Hp) (args : Args) (us : List Value) (vs : List V) (Q : VK), L2H.RoomH k A → A.guards = some [] → Env0 P w K mg base A outer s H →
    BindsTo s fd args (ps.zip us) → Vals vs us → spDH A T K S vs H Q → codeAny (model P w) A (.call (.ref f) args) (CR CX0 outer P w H s Q E0) s
structure DnC (P : Program) (w : World) (K : PySem.W.Frag) (mg : Str → Option Value) (base : Heap) (T : List (Addr × Str)) (x : Str) (k : Nat) (ps : List Str) (S : DSp) : Prop where
  ex : ∃ fd, FnC P w K mg base T k (He.ga K x) fd ps S ∧ Binds K fd ps []
  glo : mg x = some (.ref (He.ga K x))
  kp : PySem.W.keepIn K (.ref (He.ga K x)) = true
section
variable {P : Program} {w : World} {K : PySem.W.Frag} {mg : Str → Option Value} {base : Heap}
end
section
variable {X : Cx} {k : Nat} {f : Addr} {fd : FuncData} {ps : List Str} {S : DSp} {x : Str} {p pos : Pos} {e : Expr} {es : List Expr} {was : DA}
end
end DL

namespace RZ3A
open PySem RZ
open PySem.Sem (wp)
section
variable {prog : Program} {w : World} {A : Around} {E : Value → Shared → Prop} {s : Shared}
end

section
variable {prog : Program} {w : World} {A : Around} {E : Value → Shared → Prop} {s : Shared}

end
end RZ3A
namespace DL
variable {T : List (PySem.Addr × PySem.Str)} {Z : Zx T}
open PySem PySem.Spec PyProof.Rows L2 RZ3A
open Evl (Ex)
section
variable {X : Cx} {a b : Expr} {was : DA} {pos : Pos}
end
end DL

namespace DL
variable {T : List (PySem.Addr × PySem.Str)} {Z : Zx T}
open PySem PySem.Spec PyProof.Rows L2
open Evl (Ex)
end DL

namespace DL
variable {T : List (PySem.Addr × PySem.Str)} {Z : Zx T}
open PySem PySem.Spec PyProof.Rows L2
open Evl (Ex)
section
variable {X : Cx} {k : Nat} {y : Str} {p pos : Pos} {e : Expr} {es : List Expr} {was : DA}
end
end DL

namespace DL
variable {T : List (PySem.Addr × PySem.Str)} {Z : Zx T}
open PySem PySem.Spec PyProof.Rows L2
open Evl (Ex)
section
variable {X : Cx} {a b c d : Expr} {pos : Pos}
end
end DL

namespace DL
variable {T : List (PySem.Addr × PySem.Str)} {Z : Zx T}
open PySem PySem.Spec PyProof.Rows L2
open Evl (Ex)
section
variable {X : Cx} {a : Expr} {wa : DE}
end
end DL

namespace DL
variable {T : List (PySem.Addr × PySem.Str)} {Z : Zx T}
open PySem PySem.Spec PyProof.Rows L2 PySem.W
open Evl (Ex)
section
variable {X : Cx} {a : Expr} {wa : DE} {p p2 pos pos2 : Pos}
end
end DL

namespace K82
open PySem PySem.Spec PyProof.Rows L2 DL
abbrev prg : Program := PySem.Challenge.pw_prizelog_k82_whole_no_fewer_payments
def top (i : Nat) : Stmt := prg.main.body.getD i (.Pass ⟨0, 0, 0, 0⟩)
def fa : List He.Fa := [.free "isinstance", .free "int", .free "bool", .free "tuple", .free "len", .free "all", .free "sum", .free "list", .free "any", .free "range", .free "max", .free "sorted", .free "dict", .free "min", .free "abs", .int "MOST_PLACES" 8, .int "MOST" 1000000000000000, .glo "is_whole", .glo "are_balances", .glo "need_balances", .glo "is_payment", .glo "settles", .glo "places_of", .glo "is_even", .glo "table_of", .glo "lots_of", .glo "paid_within", .glo "fewest_payments", .glo "lots_table", .glo "is_above", .glo "table_says", .glo "_law_pot", .glo "_law_take", .glo "_law_drawn", .glo "_law_right", .glo "law", .keep "is_whole", .keep "are_balances", .keep "need_balances", .keep "is_payment", .keep "settles", .keep "places_of", .keep "is_even", .keep "table_of", .keep "lots_of", .keep "paid_within", .keep "fewest_payments", .keep "lots_table", .keep "is_above", .keep "table_says", .keep "_law_pot", .keep "_law_take", .keep "_law_drawn", .keep "_law_right", .keep "law"]
def dD (x : Str) (i : Nat) : He.FnD := ⟨(x, none), x, x, defArgs (top i), defBody (top i), defScope (top i)⟩
def dA (x y : Str) (i : Nat) : He.FnD := ⟨(x, none), y, y, defArgs (top i), defBody (top i), defScope (top i)⟩
def fn : List He.FnD := [dD "is_whole" 1, dD "are_balances" 9, dD "need_balances" 10, dD "is_payment" 11, dD "settles" 12, dD "places_of" 13, dD "is_even" 14, dD "table_of" 15, dD "lots_of" 16, dD "paid_within" 17, dD "fewest_payments" 18, dD "lots_table" 19, dD "is_above" 20, dD "table_says" 21, dD "_law_pot" 23, dD "_law_take" 24, dD "_law_drawn" 25, dD "_law_right" 26, dD "law" 27]
def fx : List Fx := [.tup "POWERS" [1, 2, 4, 8, 16, 32, 64, 128, 256]]
abbrev Tp (K : PySem.W.Frag) (mg : Str → Option Value) : Prop := TopX fa fn fx K mg
section
variable {K : PySem.W.Frag} {mg : Str → Option Value}
theorem m_isinstance (T : Tp K mg) : mg "isinstance" = none := T.free "isinstance" 0
theorem m_int (T : Tp K mg) : mg "int" = none := T.free "int" 1
theorem m_bool (T : Tp K mg) : mg "bool" = none := T.free "bool" 2
theorem m_tuple (T : Tp K mg) : mg "tuple" = none := T.free "tuple" 3
theorem m_len (T : Tp K mg) : mg "len" = none := T.free "len" 4
theorem m_all (T : Tp K mg) : mg "all" = none := T.free "all" 5
theorem m_sum (T : Tp K mg) : mg "sum" = none := T.free "sum" 6
theorem m_list (T : Tp K mg) : mg "list" = none := T.free "list" 7
theorem m_any (T : Tp K mg) : mg "any" = none := T.free "any" 8
theorem m_range (T : Tp K mg) : mg "range" = none := T.free "range" 9
theorem m_max (T : Tp K mg) : mg "max" = none := T.free "max" 10
theorem m_sorted (T : Tp K mg) : mg "sorted" = none := T.free "sorted" 11
theorem m_dict (T : Tp K mg) : mg "dict" = none := T.free "dict" 12
theorem m_min (T : Tp K mg) : mg "min" = none := T.free "min" 13
theorem m_abs (T : Tp K mg) : mg "abs" = none := T.free "abs" 14
theorem c_MOST_PLACES (T : Tp K mg) : ∃ t, mg "MOST_PLACES" = some (.int 8 t) := T.int "MOST_PLACES" 8 15
theorem c_MOST (T : Tp K mg) : ∃ t, mg "MOST" = some (.int 1000000000000000 t) := T.int "MOST" 1000000000000000 16
theorem ct_POWERS (T : Tp K mg) : CtT K mg "POWERS" [1, 2, 4, 8, 16, 32, 64, 128, 256] := T.tup "POWERS" [1, 2, 4, 8, 16, 32, 64, 128, 256] 0
end
/-! ### the head -/
abbrev R : PySem.W.OpenRow := PySem.W.OpenLaw.row PySem.Challenge.rw_prizelog_k82_whole_no_fewer_payments
abbrev hk : PySem.W.Hook := hookX 5 fa fn fx
def ob (s : PySem.W.SharedT) : He.Al × Bool × Bool := (He.obsG 5 fa fn (HandSHeadRun.getT s), sysB (HandSHeadRun.getT s), fxG 5 fx (HandSHeadRun.getT s))
theorem ob_eq (s : PySem.W.SharedT) : ob s = hk.obs s.abs := obsX_eq (HandSHeadRun.getT_eq s)
def loose : List Str := ["is_whole", "PrizeError", "NoBalances", "MOST_PLACES", "MOST", "POWERS", "are_balances", "need_balances", "is_payment", "settles", "places_of", "is_even", "table_of", "lots_of", "paid_within", "fewest_payments", "lots_table", "is_above", "table_says", "_law_pot", "_law_take", "_law_drawn", "_law_right"]
theorem run (w : World) : HandSHeadRun.RunEq R (PySem.W.view R.prog [27]) hk ob 20000 loose w := by
  intro os
  kernel_rfl
def q_is_whole (thing : PyData) (K : PyData → Prop) : Prop :=
  vAnd (isiB thing "int") (fun k1 => k1 (.bool (!(isiB thing "bool")))) fun t2 =>
  K t2
def qb_are_balances_1 (d : PyData) (i : PyData) (s : Unit) (sk : PyData → Unit → Prop) (yd : PyData → PyData → Unit → Prop) : Prop :=
  q_is_whole d fun i7 =>
  bT i7 fun b8 =>
  vAnd b8 (fun k15 => oNeg (.int (1000000000000000)) fun t9 =>
  oLe t9 d fun t10 =>
  bT t10 fun b11 =>
  vAnd b11 (fun k13 => oLe d (.int (1000000000000000)) fun t12 =>
  k13 t12) fun t14 =>
  k15 t14) fun t16 =>
  yd t16 i ()
def q_are_balances (thing : PyData) (K : PyData → Prop) : Prop :=
  tOr (!(isiB thing "tuple")) (fun k4 => nLen [thing] fun t1 =>
  oGt t1 (.int (8)) fun t2 =>
  bT t2 fun b3 =>
  k4 b3) fun b5 =>
  bIf b5
  (K (.bool false))
  (itemsQ thing fun l6 =>
  qLc qb_are_balances_1 thing l6 [] () fun l17 s19 =>
  nAll [(.list l17)] fun t20 =>
  bT t20 fun b21 =>
  vAnd b21 (fun k24 => nSum [thing] fun t22 =>
  oEq t22 (.int 0) fun t23 =>
  k24 t23) fun t25 =>
  K t25)
def q_need_balances (thing : PyData) (K : PyData → Prop) : Prop :=
  q_are_balances thing fun a1 =>
  bT a1 fun b2 =>
  bIf (!b2)
  (False)
  (K .none)
def qb_is_payment_1 (d : PyData) (i : PyData × PyData) (s : Unit) (sk : (PyData × PyData) → Unit → Prop) (yd : PyData → (PyData × PyData) → Unit → Prop) : Prop :=
  q_is_whole d fun i5 =>
  yd i5 (i.1, i.2) ()
def q_is_payment (many : PyData) (thing : PyData) (K : PyData → Prop) : Prop :=
  tOr (!(isiB thing "tuple")) (fun k13 => nLen [thing] fun t1 =>
  oNe t1 (.int 3) fun t2 =>
  bT t2 fun b3 =>
  tOr b3 (fun k11 => itemsQ thing fun l4 =>
  qLc qb_is_payment_1 (many, thing) l4 [] () fun l6 s8 =>
  nAll [(.list l6)] fun t9 =>
  bT t9 fun b10 =>
  k11 (!b10)) fun b12 =>
  k13 b12) fun b14 =>
  bIf b14
  (K (.bool false))
  (oIx thing (.int 0) fun t15 =>
  oLe (.int 0) t15 fun t16 =>
  bT t16 fun b17 =>
  vAnd b17 (fun k19 => oLt t15 many fun t18 =>
  k19 t18) fun t20 =>
  bT t20 fun b21 =>
  vAnd b21 (fun k39 => oIx thing (.int 1) fun t22 =>
  oLe (.int 0) t22 fun t23 =>
  bT t23 fun b24 =>
  vAnd b24 (fun k26 => oLt t22 many fun t25 =>
  k26 t25) fun t27 =>
  bT t27 fun b28 =>
  vAnd b28 (fun k37 => oIx thing (.int 0) fun t29 =>
  oIx thing (.int 1) fun t30 =>
  oNe t29 t30 fun t31 =>
  bT t31 fun b32 =>
  vAnd b32 (fun k35 => oIx thing (.int 2) fun t33 =>
  oGt t33 (.int 0) fun t34 =>
  k35 t34) fun t36 =>
  k37 t36) fun t38 =>
  k39 t38) fun t40 =>
  K t40)
def qb_settles_1 (d : PyData) (i : PyData × PyData) (s : Unit) (sk : (PyData × PyData) → Unit → Prop) (yd : PyData → (PyData × PyData) → Unit → Prop) : Prop :=
  nLen [i.1] fun t3 =>
  q_is_payment t3 d fun i4 =>
  yd i4 (i.1, i.2) ()
def qb_settles_2 (K : PyData → Prop) (d : PyData) (i : Unit) (s : List PyData) (nx bk : Unit → (List PyData) → Prop) : Prop :=
  tupQ d fun r14 =>
  consQ r14 fun payer15 r16 =>
  consQ r16 fun taker17 r18 =>
  consQ r18 fun pence19 r20 =>
  nilQ r20 (ixQ s payer15 fun t21 =>
  oAdd t21 pence19 fun t22 =>
  stQ s payer15 t22 fun left23 =>
  ixQ left23 taker17 fun t24 =>
  oSub t24 pence19 fun t25 =>
  stQ left23 taker17 t25 fun left26 =>
  nx () left26)
def q_settles (balances : PyData) (thing : PyData) (K : PyData → Prop) : Prop :=
  q_need_balances balances fun n1 =>
  tOr (!(isiB thing "tuple")) (fun k10 => itemsQ thing fun l2 =>
  qLc qb_settles_1 (balances, thing) l2 [] () fun l5 s7 =>
  nAll [(.list l5)] fun t8 =>
  bT t8 fun b9 =>
  k10 (!b9)) fun b11 =>
  bIf b11
  (K (.bool false))
  (nList [balances] fun l12 =>
  itemsQ thing fun l13 =>
  qFor (qb_settles_2 K) () l13 l12 fun s28 =>
  nAnyI [(.list s28)] fun t29 =>
  bT t29 fun b30 =>
  K (.bool (!b30)))
def qb_places_of_1 (d : PyData) (i : PyData × PyData) (s : Unit) (sk : (PyData × PyData) → Unit → Prop) (yd : PyData → (PyData × PyData) → Unit → Prop) : Prop :=
  oIx (.tuple [(.int (1)), (.int (2)), (.int (4)), (.int (8)), (.int (16)), (.int (32)), (.int (64)), (.int (128)), (.int (256))]) d fun t2 =>
  oDiv i.1 t2 fun t3 =>
  oMod t3 (.int 2) fun t4 =>
  oEq t4 (.int 1) fun t5 =>
  bT t5 fun b6 =>
  bIf b6
  (yd d (i.1, i.2) ())
  (sk (i.1, i.2) ())
def q_places_of (number : PyData) (many : PyData) (K : PyData → Prop) : Prop :=
  rng1 [many] fun l1 =>
  qLc qb_places_of_1 (number, many) l1 [] () fun l7 s9 =>
  K (.list l7)
def qb_is_even_1 (d : PyData) (i : PyData × PyData) (s : Unit) (sk : (PyData × PyData) → Unit → Prop) (yd : PyData → (PyData × PyData) → Unit → Prop) : Prop :=
  oIx i.1 d fun t4 =>
  yd t4 (i.1, i.2) ()
def q_is_even (balances : PyData) (number : PyData) (K : PyData → Prop) : Prop :=
  nLen [balances] fun t1 =>
  q_places_of number t1 fun p2 =>
  itemsQ p2 fun l3 =>
  qLc qb_is_even_1 (balances, number) l3 [] () fun l5 s7 =>
  nSum [(.list l5)] fun t8 =>
  oEq t8 (.int 0) fun t9 =>
  K t9
def qb_table_of_2 (d : PyData) (i : PyData × List PyData × PyData) (s : Unit) (sk : (PyData × List PyData × PyData) → Unit → Prop) (yd : PyData → (PyData × List PyData × PyData) → Unit → Prop) : Prop :=
  oIx (.tuple [(.int (1)), (.int (2)), (.int (4)), (.int (8)), (.int (16)), (.int (32)), (.int (64)), (.int (128)), (.int (256))]) d fun t7 =>
  oSub i.2.2 t7 fun t8 =>
  ixQ i.2.1 t8 fun t9 =>
  yd t9 (i.1, i.2.1, i.2.2) ()
def qb_table_of_1 (K : PyData → Prop) (d : PyData) (i : PyData) (s : List PyData) (nx bk : PyData → (List PyData) → Prop) : Prop :=
  nLen [i] fun t4 =>
  q_places_of d t4 fun p5 =>
  itemsQ p5 fun l6 =>
  qLc qb_table_of_2 (i, s, d) l6 [] () fun l10 s12 =>
  nMaxL [(.list l10)] fun t13 =>
  q_is_even i d fun i14 =>
  nInt [i14] fun t15 =>
  oAdd t13 t15 fun t16 =>
  apQ s t16 fun found17 =>
  nx i found17
def q_table_of (balances : PyData) (K : PyData → Prop) : Prop :=
  nLen [balances] fun t1 =>
  oIx (.tuple [(.int (1)), (.int (2)), (.int (4)), (.int (8)), (.int (16)), (.int (32)), (.int (64)), (.int (128)), (.int (256))]) t1 fun t2 =>
  rng2 [(.int 1), t2] fun l3 =>
  qFor (qb_table_of_1 K) balances l3 [(.int 0)] fun s19 =>
  K (.list s19)
def qb_lots_of_2 (d : PyData) (i : PyData × PyData × PyData × List (List PyData) × PyData) (s : Unit) (sk : (PyData × PyData × PyData × List (List PyData) × PyData) → Unit → Prop) (yd : PyData → (PyData × PyData × PyData × List (List PyData) × PyData) → Unit → Prop) : Prop :=
  oIx (.tuple [(.int (1)), (.int (2)), (.int (4)), (.int (8)), (.int (16)), (.int (32)), (.int (64)), (.int (128)), (.int (256))]) d fun t18 =>
  oSub i.2.2.1 t18 fun t19 =>
  oIx i.2.1 t19 fun t20 =>
  oEq t20 i.2.2.2.2 fun t21 =>
  bT t21 fun b22 =>
  bIf b22
  (yd d (i.1, i.2.1, i.2.2.1, i.2.2.2.1, i.2.2.2.2) ())
  (sk (i.1, i.2.1, i.2.2.1, i.2.2.2.1, i.2.2.2.2) ())
def qb_lots_of_1 (K : PyData → Prop) (i : PyData × PyData) (s : PyData × List (List PyData)) (nx bk : (PyData × PyData) → (PyData × List (List PyData)) → Prop) : Prop :=
  oGt s.1 (.int 0) fun t4 =>
  bT t4 fun b5 =>
  bIf b5
  (q_is_even i.1 s.1 fun i6 =>
  bT i6 fun b7 =>
  jn (fun J10 => bIf b7
  (maQ s.2 fun found8 =>
  J10 found8)
  (J10 s.2)) fun found9 =>
  oIx i.2 s.1 fun t11 =>
  q_is_even i.1 s.1 fun i12 =>
  nInt [i12] fun t13 =>
  oSub t11 t13 fun due14 =>
  nLen [i.1] fun t15 =>
  q_places_of s.1 t15 fun p16 =>
  itemsQ p16 fun l17 =>
  qLc qb_lots_of_2 (i.1, i.2, s.1, found9, due14) l17 [] () fun l23 s25 =>
  oIx (.list l23) (.int 0) fun place26 =>
  rowQ found9 (.int (-1)) place26 fun found27 =>
  oIx (.tuple [(.int (1)), (.int (2)), (.int (4)), (.int (8)), (.int (16)), (.int (32)), (.int (64)), (.int (128)), (.int (256))]) place26 fun t28 =>
  oSub s.1 t28 fun number29 =>
  nx (i.1, i.2) (number29, found27))
  (bk (i.1, i.2) (s.1, s.2))
def q_lots_of (balances : PyData) (K : PyData → Prop) : Prop :=
  q_table_of balances fun table1 =>
  nLen [table1] fun t2 =>
  oSub t2 (.int 1) fun number3 =>
  qWhile (qb_lots_of_1 K) (balances, table1) (number3, []) fun s31 =>
  K (.list (List.map PyData.list s31.2))
def qb_paid_within_1 (d : PyData) (i : PyData × PyData) (s : Unit) (sk : (PyData × PyData) → Unit → Prop) (yd : PyData → (PyData × PyData) → Unit → Prop) : Prop :=
  oIxM i.1 d fun t3 =>
  oNe t3 (.int 0) fun t4 =>
  bT t4 fun b5 =>
  bIf b5
  (oIxM i.1 d fun t6 =>
  yd (.tuple [d, t6]) (i.1, i.2) ())
  (sk (i.1, i.2) ())
def qb_paid_within_3 (d : PyData) (i : PyData × PyData) (s : Unit) (sk : (PyData × PyData) → Unit → Prop) (yd : PyData → (PyData × PyData) → Unit → Prop) : Prop :=
  oIxM i.1 d fun t14 =>
  oLt t14 (.int 0) fun t15 =>
  bT t15 fun b16 =>
  bIf b16
  (yd d (i.1, i.2) ())
  (sk (i.1, i.2) ())
def qb_paid_within_4 (d : PyData) (i : PyData × PyData × PyData) (s : Unit) (sk : (PyData × PyData × PyData) → Unit → Prop) (yd : PyData → (PyData × PyData × PyData) → Unit → Prop) : Prop :=
  oIxM i.1 d fun t22 =>
  oGt t22 (.int 0) fun t23 =>
  bT t23 fun b24 =>
  bIf b24
  (yd d (i.1, i.2.1, i.2.2) ())
  (sk (i.1, i.2.1, i.2.2) ())
def qb_paid_within_5 (d : PyData) (i : PyData × List PyData) (s : Unit) (sk : (PyData × List PyData) → Unit → Prop) (yd : PyData → (PyData × List PyData) → Unit → Prop) : Prop :=
  oIxM i.1 d fun t41 =>
  oNe t41 (.int 0) fun t42 =>
  bT t42 fun b43 =>
  bIf b43
  (oIxM i.1 d fun t44 =>
  yd (.tuple [d, t44]) (i.1, i.2) ())
  (sk (i.1, i.2) ())
def qb_paid_within_2 (K : List PyData → Prop) (i : Unit) (s : KVM × List PyData) (nx bk : Unit → (KVM × List PyData) → Prop) : Prop :=
  oEmpD true (.dict s.1) (.dict []) fun t11 =>
  bT t11 fun b12 =>
  bIf b12
  (itemsM (.dict s.1) fun l13 =>
  qLc qb_paid_within_3 ((.dict s.1), (.list s.2)) l13 [] () fun l17 s19 =>
  nMinL [(.list l17)] fun payer20 =>
  scalQ payer20 (itemsM (.dict s.1) fun l21 =>
  qLc qb_paid_within_4 ((.dict s.1), (.list s.2), payer20) l21 [] () fun l25 s27 =>
  nMinL [(.list l25)] fun taker28 =>
  scalQ taker28 (oIxM (.dict s.1) payer20 fun t29 =>
  scalQ t29 (oNeg t29 fun t30 =>
  oIxM (.dict s.1) taker28 fun t31 =>
  scalQ t31 (nMin2 [t30, t31] fun pence32 =>
  apQ s.2 (.tuple [payer20, taker28, pence32]) fun found33 =>
  oIxM (.dict s.1) payer20 fun t34 =>
  scalQ t34 (oAdd t34 pence32 fun t35 =>
  putMQ s.1 payer20 t35 fun left36 =>
  oIxM (.dict left36) taker28 fun t37 =>
  scalQ t37 (oSub t37 pence32 fun t38 =>
  putMQ left36 taker28 t38 fun left39 =>
  itemsM (.dict left39) fun l40 =>
  qLc qb_paid_within_5 ((.dict left39), found33) l40 [] () fun l45 s47 =>
  dictQ (.list l45) fun m48 =>
  nx () (m48, found33))))))))
  (bk () (s.1, s.2))
def q_paid_within (balances : PyData) (lot : PyData) (K : List PyData → Prop) : Prop :=
  sortedQ lot fun l1 =>
  itemsM (.list l1) fun l2 =>
  qLc qb_paid_within_1 (balances, lot) l2 [] () fun l7 s9 =>
  dictQ (.list l7) fun m10 =>
  qWhile (qb_paid_within_2 K) () (m10, []) fun s50 =>
  K s50.2
def qb_fewest_payments_1 (K : PyData → Prop) (d : PyData) (i : PyData) (s : List PyData) (nx bk : PyData → (List PyData) → Prop) : Prop :=
  q_paid_within i d fun p4 =>
  exQ s p4 fun found5 =>
  nx i found5
def q_fewest_payments (balances : PyData) (K : PyData → Prop) : Prop :=
  q_need_balances balances fun n1 =>
  q_lots_of balances fun l2 =>
  itemsQ l2 fun l3 =>
  qFor (qb_fewest_payments_1 K) balances l3 [] fun s7 =>
  sortedQ (.list s7) fun l8 =>
  nTuple [(.list l8)] fun t9 =>
  K t9
def q_lots_table (balances : PyData) (K : PyData → Prop) : Prop :=
  q_need_balances balances fun n1 =>
  q_table_of balances fun t2 =>
  nTuple [t2] fun t3 =>
  K t3
def qb_is_above_1 (d : PyData) (i : PyData × PyData × PyData × PyData) (s : Unit) (sk : (PyData × PyData × PyData × PyData) → Unit → Prop) (yd : PyData → (PyData × PyData × PyData × PyData) → Unit → Prop) : Prop :=
  oIx i.2.1 i.2.2.1 fun t6 =>
  oIx (.tuple [(.int (1)), (.int (2)), (.int (4)), (.int (8)), (.int (16)), (.int (32)), (.int (64)), (.int (128)), (.int (256))]) d fun t7 =>
  oSub i.2.2.1 t7 fun t8 =>
  oIx i.2.1 t8 fun t9 =>
  oAdd t9 i.2.2.2 fun t10 =>
  oGe t6 t10 fun t11 =>
  yd t11 (i.1, i.2.1, i.2.2.1, i.2.2.2) ()
def q_is_above (balances : PyData) (thing : PyData) (number : PyData) (K : PyData → Prop) : Prop :=
  q_is_even balances number fun i1 =>
  nInt [i1] fun more2 =>
  nLen [balances] fun t3 =>
  q_places_of number t3 fun p4 =>
  itemsQ p4 fun l5 =>
  qLc qb_is_above_1 (balances, thing, number, more2) l5 [] () fun l12 s14 =>
  nAll [(.list l12)] fun t15 =>
  K t15
def qb_table_says_1 (d : PyData) (i : PyData × PyData) (s : Unit) (sk : (PyData × PyData) → Unit → Prop) (yd : PyData → (PyData × PyData) → Unit → Prop) : Prop :=
  q_is_whole d fun i8 =>
  yd i8 (i.1, i.2) ()
def qb_table_says_2 (d : PyData) (i : PyData × PyData) (s : Unit) (sk : (PyData × PyData) → Unit → Prop) (yd : PyData → (PyData × PyData) → Unit → Prop) : Prop :=
  q_is_above i.1 i.2 d fun i23 =>
  yd i23 (i.1, i.2) ()
def q_table_says (balances : PyData) (thing : PyData) (K : PyData → Prop) : Prop :=
  q_need_balances balances fun n1 =>
  tOr (!(isiB thing "tuple")) (fun k16 => nLen [thing] fun t2 =>
  nLen [balances] fun t3 =>
  oIx (.tuple [(.int (1)), (.int (2)), (.int (4)), (.int (8)), (.int (16)), (.int (32)), (.int (64)), (.int (128)), (.int (256))]) t3 fun t4 =>
  oNe t2 t4 fun t5 =>
  bT t5 fun b6 =>
  tOr b6 (fun k14 => itemsQ thing fun l7 =>
  qLc qb_table_says_1 (balances, thing) l7 [] () fun l9 s11 =>
  nAll [(.list l9)] fun t12 =>
  bT t12 fun b13 =>
  k14 (!b13)) fun b15 =>
  k16 b15) fun b17 =>
  bIf b17
  (K .none)
  (oIx thing (.int 0) fun t18 =>
  oLt t18 (.int 0) fun t19 =>
  bT t19 fun b20 =>
  tOr b20 (fun k29 => nLen [thing] fun t21 =>
  rng2 [(.int 1), t21] fun l22 =>
  qLc qb_table_says_2 (balances, thing) l22 [] () fun l24 s26 =>
  nAll [(.list l24)] fun t27 =>
  bT t27 fun b28 =>
  k29 (!b28)) fun b30 =>
  bIf b30
  (K .none)
  (nLen [balances] fun t31 =>
  oIx thing (.int (-1)) fun t32 =>
  oSub t31 t32 fun t33 =>
  K t33))
def q_law_pot (script : PyData) (k : PyData) (K : List PyData → Prop) : Prop :=
  nLen [script] fun t1 =>
  oLt k t1 fun t2 =>
  bT t2 fun b3 =>
  jn (fun J10 => bIf b3
  (oIx script k fun t4 =>
  nAbs [t4] fun t5 =>
  oPow (.int 10) (.int 60) fun t6 =>
  oPow t6 (.int 10) fun t7 =>
  oMod t5 t7 fun cell8 =>
  J10 cell8)
  (J10 (.int 0))) fun cell9 =>
  oPow (.int 10) (.int 18) fun t11 =>
  oGe cell9 t11 fun t12 =>
  nInt [t12] fun t13 =>
  oMul cell9 t13 fun t14 =>
  oMod cell9 (.int 2147483629) fun t15 =>
  oMul (.int 7919) k fun t16 =>
  oAdd t15 t16 fun t17 =>
  oAdd t17 (.int 1) fun t18 =>
  K [t14, t18, (.int 0)]
def q_law_take (pot_here : List PyData) (many : PyData) (K : PyData → List PyData → Prop) : Prop :=
  ixQ pot_here (.int 0) fun t1 =>
  oGt t1 (.int 0) fun t2 =>
  bT t2 fun b3 =>
  bIf b3
  (ixQ pot_here (.int 0) fun t4 =>
  oMod t4 many fun found5 =>
  ixQ pot_here (.int 0) fun t6 =>
  oDiv t6 many fun t7 =>
  stQ pot_here (.int 0) t7 fun pot_here8 =>
  K found5 pot_here8)
  (ixQ pot_here (.int 2) fun t9 =>
  oAdd t9 (.int 1) fun t10 =>
  stQ pot_here (.int 2) t10 fun pot_here11 =>
  ixQ pot_here11 (.int 2) fun turn12 =>
  ixQ pot_here11 (.int 1) fun t13 =>
  oMul (.int 2) turn12 fun t14 =>
  oAdd t14 (.int 1) fun t15 =>
  oMul t13 t15 fun t16 =>
  oMul (.int 104729) turn12 fun t17 =>
  oMul t17 turn12 fun t18 =>
  oAdd t16 t18 fun t19 =>
  oMod turn12 (.int 7) fun t20 =>
  oIx (.list [(.int 2147483647), (.int 2147483629), (.int 2147483587), (.int 2147483579), (.int 2147483563), (.int 2147483549), (.int 2147483543)]) t20 fun t21 =>
  oMod t19 t21 fun one22 =>
  oPow one22 (.int 5) fun t23 =>
  oMod t23 (.int 2305843009213693951) fun t24 =>
  oDiv t24 (.int 64) fun t25 =>
  oMod t25 many fun t26 =>
  K t26 pot_here11)
def qb_law_drawn_1 (K : PyData → List PyData → Prop) (d : PyData) (i : PyData × PyData) (s : List PyData × List PyData × List PyData) (nx bk : (PyData × PyData) → (List PyData × List PyData × List PyData) → Prop) : Prop :=
  q_law_take s.1 i.1 fun payer12 pot_here13 =>
  oAdd payer12 (.int 1) fun t14 =>
  oSub i.1 (.int 1) fun t15 =>
  q_law_take pot_here13 t15 fun t16 pot_here17 =>
  oAdd t14 t16 fun t18 =>
  oMod t18 i.1 fun taker19 =>
  q_law_take pot_here17 i.2 fun t20 pot_here21 =>
  oAdd (.int 1) t20 fun pence22 =>
  apQ s.2.1 (.tuple [payer12, taker19, pence22]) fun paid23 =>
  ixQ s.2.2 payer12 fun t24 =>
  oSub t24 pence22 fun t25 =>
  stQ s.2.2 payer12 t25 fun left26 =>
  ixQ left26 taker19 fun t27 =>
  oAdd t27 pence22 fun t28 =>
  stQ left26 taker19 t28 fun left29 =>
  nx (i.1, i.2) (pot_here21, paid23, left29)
def q_law_drawn (pot_here : List PyData) (many : PyData) (K : PyData → List PyData → Prop) : Prop :=
  q_law_take pot_here (.int 10) fun t1 pot_here2 =>
  oGt many (.int 1) fun t3 =>
  nInt [t3] fun t4 =>
  oMul t1 t4 fun size5 =>
  oPow (.int 10) (.int 13) fun t6 =>
  q_law_take pot_here2 (.int 3) fun t7 pot_here8 =>
  oIx (.list [(.int 2), (.int 30), t6]) t7 fun far9 =>
  repQ (.int 0) many fun l10 =>
  rng1 [size5] fun l11 =>
  qFor (qb_law_drawn_1 K) (many, far9) l11 (pot_here8, [], l10) fun s31 =>
  K (.tuple [(.tuple s31.2.2), (.tuple s31.2.1)]) s31.1
def qb_law_right_1 (d : PyData) (i : List PyData × PyData × PyData × PyData × PyData) (s : Unit) (sk : (List PyData × PyData × PyData × PyData × PyData) → Unit → Prop) (yd : PyData → (List PyData × PyData × PyData × PyData × PyData) → Unit → Prop) : Prop :=
  oAdd d (.int 2) fun t38 =>
  yd t38 (i.1, i.2.1, i.2.2.1, i.2.2.2.1, i.2.2.2.2) ()
def qb_law_right_2 (d : PyData) (i : List PyData × PyData × PyData × PyData × PyData × PyData) (s : Unit) (sk : (List PyData × PyData × PyData × PyData × PyData × PyData) → Unit → Prop) (yd : PyData → (List PyData × PyData × PyData × PyData × PyData × PyData) → Unit → Prop) : Prop :=
  oAdd d (.int 1) fun t44 =>
  yd t44 (i.1, i.2.1, i.2.2.1, i.2.2.2.1, i.2.2.2.2.1, i.2.2.2.2.2) ()
def qb_law_right_3 (K : PyData → List PyData → Prop) (d : PyData) (i : List PyData × PyData × PyData) (s : Unit) (nx bk : (List PyData × PyData × PyData) → Unit → Prop) : Prop :=
  q_table_says i.2.1 d fun says53 =>
  oNotN says53 fun t54 =>
  bT t54 fun b55 =>
  tAnd b55 (fun k59 => nLen [i.2.2] fun t56 =>
  oGt says53 t56 fun t57 =>
  bT t57 fun b58 =>
  k59 b58) fun b60 =>
  bIf b60
  (K (.bool false) i.1)
  (nx (i.1, i.2.1, i.2.2) ())
def q_law_right (pot_here : List PyData) (balances : PyData) (paid : PyData) (K : PyData → List PyData → Prop) : Prop :=
  q_are_balances balances fun a1 =>
  oIsB true true a1 fun t2 =>
  bT t2 fun b3 =>
  tOr b3 (fun k7 => q_settles balances paid fun s4 =>
  oIsB true true s4 fun t5 =>
  bT t5 fun b6 =>
  k7 b6) fun b8 =>
  bIf b8
  (K (.bool false) pot_here)
  (q_fewest_payments balances fun few9 =>
  q_lots_table balances fun table10 =>
  nLen [few9] fun t11 =>
  nLen [paid] fun t12 =>
  oGt t11 t12 fun t13 =>
  bT t13 fun b14 =>
  tOr b14 (fun k18 => q_settles balances few9 fun s15 =>
  oIsB true true s15 fun t16 =>
  bT t16 fun b17 =>
  k18 b17) fun b19 =>
  bIf b19
  (K (.bool false) pot_here)
  (q_table_says balances table10 fun t20 =>
  nLen [few9] fun t21 =>
  oNe t20 t21 fun t22 =>
  bT t22 fun b23 =>
  tOr b23 (fun k30 => nLen [few9] fun t24 =>
  nLen [balances] fun t25 =>
  oSub t25 (.int 1) fun t26 =>
  nMax2 [(.int 0), t26] fun t27 =>
  oGt t24 t27 fun t28 =>
  bT t28 fun b29 =>
  k30 b29) fun b31 =>
  bIf b31
  (K (.bool false) pot_here)
  (nLen [table10] fun t32 =>
  q_law_take pot_here t32 fun at_33 pot_here34 =>
  soQ at_33 fun o35 =>
  oSl table10 o35 none fun l36 =>
  itemsQ l36 fun l37 =>
  qLc qb_law_right_1 (pot_here34, balances, few9, table10, at_33) l37 [] () fun l39 s41 =>
  nTuple [(.list l39)] fun more42 =>
  itemsQ table10 fun l43 =>
  qLc qb_law_right_2 (pot_here34, balances, few9, table10, at_33, more42) l43 [] () fun l45 s47 =>
  nTuple [(.list l45)] fun t48 =>
  soQ at_33 fun o49 =>
  oSl table10 none o49 fun l50 =>
  oAdd l50 more42 fun t51 =>
  itemsQ (.list [t48, t51]) fun l52 =>
  qFor (qb_law_right_3 K) (pot_here34, balances, few9) l52 () fun s62 =>
  K (.bool true) pot_here34)))
def qb_law_2 (d : PyData) (i : PyData × List PyData × PyData × PyData × PyData × PyData × PyData) (s : Unit) (sk : (PyData × List PyData × PyData × PyData × PyData × PyData × PyData) → Unit → Prop) (yd : PyData → (PyData × List PyData × PyData × PyData × PyData × PyData × PyData) → Unit → Prop) : Prop :=
  tupQ d fun r =>
  consQ r fun payer' r1 =>
  consQ r1 fun taker' r2 =>
  consQ r2 fun pence' r3 =>
  nilQ r3 (oAdd payer' i.2.2.1 fun t27 =>
  oAdd taker' i.2.2.1 fun t28 =>
  yd (.tuple [t27, t28, pence']) (i.1, i.2.1, i.2.2.1, i.2.2.2.1, i.2.2.2.2.1, i.2.2.2.2.2.1, i.2.2.2.2.2.2) ())
def qb_law_1 (K : PyData → Prop) (d : PyData) (i : PyData) (s : Unit) (nx bk : PyData → Unit → Prop) : Prop :=
  q_law_pot i d fun pot_here5 =>
  q_law_take pot_here5 (.int 7) fun t6 pot_here7 =>
  oAdd (.int 1) t6 fun many8 =>
  q_law_drawn pot_here7 many8 fun d9 pot_here10 =>
  tupQ d9 fun r11 =>
  consQ r11 fun one12 r13 =>
  consQ r13 fun paid14 r15 =>
  nilQ r15 (oSub (.int 9) many8 fun t16 =>
  q_law_take pot_here10 t16 fun t17 pot_here18 =>
  q_law_drawn pot_here18 t17 fun d19 pot_here20 =>
  tupQ d19 fun r21 =>
  consQ r21 fun other22 r23 =>
  consQ r23 fun more24 r25 =>
  nilQ r25 (itemsQ more24 fun l26 =>
  qLc qb_law_2 (i, pot_here20, many8, one12, paid14, other22, more24) l26 [] () fun l29 s31 =>
  nTuple [(.list l29)] fun further32 =>
  q_law_right pot_here20 one12 paid14 fun r33 pot_here34 =>
  bT r33 fun b35 =>
  jn (fun k39 => bIf (!b35) (k39 true pot_here34) (q_law_right pot_here34 other22 more24 fun r36 pot_here37 =>
  bT r36 fun b38 =>
  k39 (!b38) pot_here37)) fun b40 pot_here41 =>
  bIf b40
  (K (.bool false))
  (oAdd one12 other22 fun t42 =>
  oAdd paid14 further32 fun t43 =>
  q_law_right pot_here41 t42 t43 fun r44 pot_here45 =>
  bT r44 fun b46 =>
  bIf (!b46)
  (K (.bool false))
  (q_fewest_payments one12 fun f47 =>
  nLen [f47] fun t48 =>
  q_fewest_payments other22 fun f49 =>
  nLen [f49] fun t50 =>
  oAdd t48 t50 fun both51 =>
  oAdd one12 other22 fun t52 =>
  q_fewest_payments t52 fun f53 =>
  nLen [f53] fun t54 =>
  oGt t54 both51 fun t55 =>
  bT t55 fun b56 =>
  bIf b56
  (K (.bool false))
  (nx i ())))))
def q_law (script : PyData) (K : PyData → Prop) : Prop :=
  nLen [script] fun t1 =>
  nMin2 [(.int 20), t1] fun t2 =>
  nMax2 [(.int 1), t2] fun t3 =>
  rng1 [t3] fun l4 =>
  qFor (qb_law_1 K) script l4 () fun s58 =>
  K (.bool true)
local macro_rules | `(tactic| walk_at "q") => `(tactic| try simp only [q_bT, q_add, q_addT, q_addL, q_addS, q_sub, q_mul, q_mulT, q_div, q_mod, q_pow, q_neg, q_lt, q_le, q_gt, q_ge, q_oI, q_eq, q_ne, q_eqS, q_neS, q_isN, q_isNi, q_isNt, q_isNs, q_notN, q_notNi, q_notNt, q_ix, q_ixL, q_ixQ, q_len, q_lenT, q_lenS, q_abs, q_min, q_max, q_tupleOf, q_tupleOfT, q_int, q_intB, q_list, q_listT, q_tup, q_cons, q_nil, q_so, q_lst, q_items, q_itemsT, q_rev, q_zip, q_zipT, q_rng1, q_rng2, q_sumI, q_sumTI, q_allB, q_anyB, q_ap, q_jn, q_fd, q_rep, q_slT, q_slL, q_max3, q_min3, q_str, q_cat, q_catN, q_scalN, q_scalB, q_scalI, q_scalS, q_enumL, q_enumT, q_inL, q_inT, q_inS, q_ninL, q_ninT, q_ninS, Bool.true_eq_false, Bool.false_eq_true, false_imp_iff, true_imp_iff, q_eqB, q_neB, q_empL, q_empT, q_isB, q_revL, q_revT, List.isEmpty_cons, List.isEmpty_nil, bne_self_eq_false, Bool.bne_false, Bool.bne_true, q_same, q_tAnd_k, q_tOr_k, q_vAnd_k, q_vOr_k, q_tAnd_s, q_tOr_s, q_vAnd_s, q_vOr_s, q_vIf_k, q_tAnd_t, q_tAnd_f, q_tOr_t, q_tOr_f, q_vAnd_t, q_vAnd_f, q_vOr_t, q_vOr_f, q_vIf_t, q_vIf_f, at0, at1, at2, at3, at4, at5, at6, atLast, st0, st1, st2, st3, st4, bIf_t, bIf_f, true_and, and_true, Bool.not_true, Bool.not_false, Bool.true_and, Bool.false_and, Bool.and_true, Bool.and_false, Bool.true_or, Bool.or_true, Bool.false_or, Bool.or_false, Bool.not_not, decide_true, decide_false, List.length_cons, List.cons_append, List.nil_append, List.length_nil, List.length_map, List.length_append, isi_non_int, isi_non_bool, isi_non_str, isi_non_list, isi_non_tuple, isi_non_dict, isi_bl_int, isi_bl_bool, isi_bl_str, isi_bl_list, isi_bl_tuple, isi_bl_dict, isi_int_int, isi_int_bool, isi_int_str, isi_int_list, isi_int_tuple, isi_int_dict, isi_str_int, isi_str_bool, isi_str_str, isi_str_list, isi_str_tuple, isi_str_dict, isi_lst_int, isi_lst_bool, isi_lst_str, isi_lst_list, isi_lst_tuple, isi_lst_dict, isi_tup_int, isi_tup_bool, isi_tup_str, isi_tup_list, isi_tup_tuple, isi_tup_dict, isi_dct_int, isi_dct_bool, isi_dct_str, isi_dct_list, isi_dct_tuple, isi_dct_dict])
local macro_rules | `(tactic| walk_at "side") => `(tactic| first | assumption | exact rfl | omega | exact sz_of (by omega) (by omega) | decide | (refine ⟨?_, ?_⟩ <;> walk_at "side"))
local macro_rules | `(tactic| walk_at "sides") => `(tactic| repeat ((with_reducible refine And.intro ?_ ?_); (· walk_at "side"); walk_at "q"))
local macro_rules | `(tactic| walk_at "go") => `(tactic| (walk_at "q"; walk_at "sides"))
local macro_rules | `(tactic| walk_at "j") => `(tactic| try simp only [q_bT, q_add, q_addT, q_addL, q_addS, q_sub, q_mul, q_mulT, q_div, q_mod, q_pow, q_neg, q_lt, q_le, q_gt, q_ge, q_oI, q_eq, q_ne, q_eqS, q_neS, q_isN, q_isNi, q_isNt, q_isNs, q_notN, q_notNi, q_notNt, q_ix, q_ixL, q_ixQ, q_len, q_lenT, q_lenS, q_abs, q_min, q_max, q_tupleOf, q_tupleOfT, q_int, q_intB, q_list, q_listT, q_tup, q_cons, q_nil, q_so, q_lst, q_items, q_itemsT, q_rev, q_zip, q_zipT, q_rng1, q_rng2, q_sumI, q_sumTI, q_allB, q_anyB, q_ap, q_fd, q_rep, q_slT, q_slL, q_max3, q_min3, q_str, q_cat, q_catN, q_scalN, q_scalB, q_scalI, q_scalS, q_enumL, q_enumT, q_inL, q_inT, q_inS, q_ninL, q_ninT, q_ninS, Bool.true_eq_false, Bool.false_eq_true, false_imp_iff, true_imp_iff, q_eqB, q_neB, q_empL, q_empT, q_isB, q_revL, q_revT, List.isEmpty_cons, List.isEmpty_nil, bne_self_eq_false, Bool.bne_false, Bool.bne_true, q_same, q_tAnd_k, q_tOr_k, q_vAnd_k, q_vOr_k, q_tAnd_s, q_tOr_s, q_vAnd_s, q_vOr_s, q_vIf_k, q_tAnd_t, q_tAnd_f, q_tOr_t, q_tOr_f, q_vAnd_t, q_vAnd_f, q_vOr_t, q_vOr_f, q_vIf_t, q_vIf_f, at0, at1, at2, at3, at4, at5, at6, atLast, st0, st1, st2, st3, st4, bIf_t, bIf_f, true_and, and_true, Bool.not_true, Bool.not_false, Bool.true_and, Bool.false_and, Bool.and_true, Bool.and_false, Bool.true_or, Bool.or_true, Bool.false_or, Bool.or_false, Bool.not_not, decide_true, decide_false, List.length_cons, List.cons_append, List.nil_append, List.length_nil, List.length_map, List.length_append, isi_non_int, isi_non_bool, isi_non_str, isi_non_list, isi_non_tuple, isi_non_dict, isi_bl_int, isi_bl_bool, isi_bl_str, isi_bl_list, isi_bl_tuple, isi_bl_dict, isi_int_int, isi_int_bool, isi_int_str, isi_int_list, isi_int_tuple, isi_int_dict, isi_str_int, isi_str_bool, isi_str_str, isi_str_list, isi_str_tuple, isi_str_dict, isi_lst_int, isi_lst_bool, isi_lst_str, isi_lst_list, isi_lst_tuple, isi_lst_dict, isi_tup_int, isi_tup_bool, isi_tup_str, isi_tup_list, isi_tup_tuple, isi_tup_dict, isi_dct_int, isi_dct_bool, isi_dct_str, isi_dct_list, isi_dct_tuple, isi_dct_dict])
def isW : PyData → Bool
  | .int _ => true
  | _ => false
structure Sale (g c r h b p q : Int) : Prop where
  g0 : 0 ≤ g
  g1 : g ≤ 10 ^ 12
  c0 : 0 ≤ c
  c1 : c ≤ 10 ^ 12
  r0 : 0 ≤ r
  r1 : r ≤ 10000
  h0 : 0 ≤ h
  h1 : h ≤ 1000
  b0 : 0 ≤ b
  b1 : b ≤ 10 ^ 9
  p0 : 0 ≤ p
  pq : p ≤ q
  q0 : 0 < q
  q1 : q ≤ 10 ^ 40
  co : Int.gcd p q = 1
structure SaleB (g c r h b p q : Int) : Prop where
  g0 : 0 ≤ g
  g1 : g ≤ 10 ^ 70
  c0 : 0 ≤ c
  c1 : c ≤ 10 ^ 12
  r0 : 0 ≤ r
  r1 : r ≤ 10000
  h0 : 0 ≤ h
  h1 : h ≤ 1000
  b0 : 0 ≤ b
  b1 : b ≤ 10 ^ 9
  p0 : 0 ≤ p
  pq : p ≤ q
  q0 : 0 < q
  q1 : q ≤ 10 ^ 40
theorem Sale.B {g c r h b p q : Int} (s : Sale g c r h b p q) : SaleB g c r h b p q := ⟨s.g0, Int.le_trans s.g1 (by decide), s.c0, s.c1, s.r0, s.r1, s.h0, s.h1, s.b0, s.b1, s.p0, s.pq, s.q0, s.q1⟩
def paid (g c : Int) : Int := if g < c then g else c
def PotOk (n : Int) (xs : List PyData) : Prop := ∃ g s t : Int, xs = [.int g, .int s, .int t] ∧ 0 ≤ s ∧ s ≤ 10 ^ 12 ∧ 0 ≤ t ∧ t ≤ n
theorem PotOk.mono {n m : Int} {xs : List PyData} (h : PotOk n xs) (e : n ≤ m) : PotOk m xs := by
  obtain ⟨g, s, t, h1, h2, h3, h4, h5⟩ := h
  exact ⟨g, s, t, h1, h2, h3, h4, by omega⟩
theorem Sale.zero {g c r h b p q : Int} (s : Sale g c r h b p q) : Sale 0 c r h b p q := ⟨by omega, by omega, s.c0, s.c1, s.r0, s.r1, s.h0, s.h1, s.b0, s.b1, s.p0, s.pq, s.q0, s.q1, s.co⟩
theorem is_whole_q (a : PyData) (K : PyData → Prop) : q_is_whole a K = K (.bool (isW a)) := by
  cases a with
  | dict kv => rcases kv with _ | ⟨⟨kz, vz⟩, rz⟩ <;> (try cases kz) <;> rfl
  | _ => rfl
def BagOk (n : Int) (xs : List PyData) : Prop := ∃ g s t : Int, xs = [.int g, .int s, .int t] ∧ 0 ≤ s ∧ s ≤ 3000000000 ∧ 0 ≤ t ∧ t ≤ n
theorem BagOk.mono {n m : Int} {xs : List PyData} (h : BagOk n xs) (e : n ≤ m) : BagOk m xs := by
  obtain ⟨g, s, t, h1, h2, h3, h4, h5⟩ := h
  exact ⟨g, s, t, h1, h2, h3, h4, by omega⟩
theorem jn_by {α : Type} {f : (α → Prop) → Prop} {K : α → Prop} (P : α → Prop) (h : ∀ J : α → Prop, (∀ x, P x → J x) → f J) (k : ∀ x, P x → K x) : jn f K := h K k
theorem bag_pot_q (ns : List Int) (k : Int) (k0 : 0 ≤ k) (k1 : k ≤ 1000) (K : List PyData → Prop) (h : ∀ xs, BagOk 0 xs → K xs) : q_law_pot (.list (ns.map .int)) (.int k) K := by
  unfold q_law_pot
  walk_at "j"
  have z := sz_of (i := 10) (by decide) (by decide)
  have z60 : Sz (10 ^ Int.toNat 60) := sz_of (by decide) (by decide)
  have zz : (0 : Int) < (10 ^ Int.toNat 60) ^ Int.toNat 10 := by decide +kernel
  refine jn_by (fun d => ∃ c : Int, d = .int c ∧ 0 ≤ c ∧ c < (10 ^ Int.toNat 60) ^ Int.toNat 10) (fun J hJ => ?_) ?_
  · refine bIf_d (fun hk => ?_) fun _ => ?_
    · refine pick_mem k0 (by simpa using hk) fun d mem => ?_
      obtain ⟨c, _, rfl⟩ := List.mem_map.mp mem
      walk_at "q"
      refine ⟨⟨z, by decide, by decide⟩, ⟨z60, by decide, by decide⟩, zz, ?_⟩
      exact hJ _ ⟨_, rfl, Int.emod_nonneg _ (Int.ne_of_gt zz), Int.emod_lt_of_pos _ zz⟩
    · exact hJ _ ⟨0, rfl, Int.le_refl _, zz⟩
  · rintro _ ⟨c, rfl, c0, c1⟩
    have zc : Sz c := by
      unfold Sz
      have e : (10 : Int) ^ 1000 = (((10 : Nat) ^ 1000 : Nat) : Int) := by rw [Int.natCast_pow]; rfl
      have : (10 ^ Int.toNat 60 : Int) ^ Int.toNat 10 ≤ 10 ^ 1000 := by decide +kernel
      rw [e] at this
      omega
    walk_at "q"
    have b1 := Int.emod_nonneg c (by decide : (2147483629 : Int) ≠ 0)
    have b2 := Int.emod_lt_of_pos c (by decide : (0 : Int) < 2147483629)
    generalize c % 2147483629 = m at b1 b2 ⊢
    refine ⟨⟨z, by decide, by decide⟩, ⟨zc, ?_⟩, by decide, ⟨by walk_at "side", by walk_at "side"⟩, ?_⟩
    · split <;> exact sz_of (by decide) (by decide)
    · exact h _ ⟨_, _, _, rfl, by omega, by omega, by decide, by decide⟩
theorem bag_take_q {n m : Int} {xs : List PyData} (hp : BagOk n xs) (hn : n ≤ 10 ^ 6) (m0 : 0 < m) (m1 : m ≤ 10 ^ 50) (K : PyData → List PyData → Prop) (h : ∀ r xs', 0 ≤ r → r < m → BagOk (n + 1) xs' → K (.int r) xs') : q_law_take xs (.int m) K := by
  obtain ⟨g, s, t, rfl, s0, s1, t0, t1⟩ := hp
  unfold q_law_take
  walk_at "q"
  refine bIf_d (fun h0 => ?_) fun h0 => ?_
  · walk_at "sides"
    exact h _ _ (Int.emod_nonneg _ (by omega)) (Int.emod_lt_of_pos _ m0) ⟨_, s, t, rfl, s0, s1, t0, by omega⟩
  · have sz1 : Sz s := sz_of (by omega) (by omega)
    have sz2 : Sz (2 * (t + 1) + 1) := sz_of (by omega) (by omega)
    have sz3 : Sz (t + 1) := sz_of (by omega) (by omega)
    have sz4 : Sz (104729 * (t + 1)) := sz_of (by omega) (by omega)
    refine ⟨⟨by walk_at "side", sz3⟩, ⟨sz1, sz2⟩, ⟨by walk_at "side", sz3⟩, ⟨sz4, sz3⟩, by decide, ?_⟩
    generalize s * (2 * (t + 1) + 1) + 104729 * (t + 1) * (t + 1) = A
    refine pick_mem (Int.emod_nonneg _ (by decide)) (Int.emod_lt_of_pos _ (by decide)) fun d hd => ?_
    obtain ⟨p, rfl, p0, p1⟩ : ∃ p : Int, d = .int p ∧ 0 < p ∧ p ≤ 2147483647 := by
      simp only [List.mem_cons, List.not_mem_nil, or_false] at hd
      rcases hd with rfl | rfl | rfl | rfl | rfl | rfl | rfl <;> exact ⟨_, rfl, by decide, by decide⟩
    walk_at "q"
    have b1 := Int.emod_nonneg A (by omega : p ≠ 0)
    have b2 := Int.emod_lt_of_pos A p0
    generalize A % p = B at b1 b2 ⊢
    have d1 := Int.emod_nonneg (B ^ Int.toNat 5) (by decide : (2305843009213693951 : Int) ≠ 0)
    generalize B ^ Int.toNat 5 % 2305843009213693951 = D at d1 ⊢
    walk_at "sides"
    exact h _ _ (Int.emod_nonneg _ (by omega)) (Int.emod_lt_of_pos _ m0) ⟨g, s, t + 1, rfl, s0, s1, by omega, by omega⟩
theorem cut_takeN {xs : List PyData} {k : Nat} : DL.cutD xs none (some (k : Int)) = xs.take k := by
  unfold DL.cutD
  rw [HT.sIx_none, HT.sIx_nat, List.drop_zero, Nat.sub_zero]
  rcases Nat.le_total k xs.length with h | h
  · rw [Nat.min_eq_left h]
  · rw [Nat.min_eq_right h, List.take_of_length_le h, List.take_of_length_le (Nat.le_refl _)]
theorem st_in {xs : List PyData} {i : Int} {d : PyData} {K : List PyData → Prop} (h0 : 0 ≤ i) (h1 : i < xs.length) (h : K (xs.set i.toNat d)) : stQ xs (.int i) d K := by
  show (match ixN xs.length i with | some j => K (xs.set j d) | none => False)
  rw [ixN_in h0 h1]
  exact h
theorem pick_last {xs : List PyData} {P : PyData → Prop} (hs : 0 < xs.length) (h : ∀ d, xs[xs.length - 1]? = some d → P d) : pick xs (-1) P := by
  have e : atI xs (-1) = some xs[xs.length - 1] := by
    unfold atI ixN
    rw [if_neg (by decide), if_pos (by omega)]
    show xs[((-1 : Int) + (xs.length : Int)).toNat]? = _
    rw [show ((-1 : Int) + (xs.length : Int)).toNat = xs.length - 1 by omega, List.getElem?_eq_getElem]
  rw [pick_eq e]
  exact h _ (List.getElem?_eq_getElem _)
theorem isi_tup {d : PyData} (h : isiB d "tuple" = true) : ∃ xs, d = .tuple xs := by
  cases d with
  | tuple xs => exact ⟨xs, rfl⟩
  | dict kv => rcases kv with _ | ⟨⟨kz, vz⟩, rz⟩ <;> (try cases kz) <;> cases h
  | _ => cases h
theorem range_len (lo : Int) (n : Nat) : (rangeD lo n).length = n := by simp [rangeD]
theorem ints_of : ∀ {xs : List PyData}, (∀ y ∈ xs, ∃ i : Int, y = .int i) → ∃ is : List Int, xs = is.map .int
  | [], _ => ⟨[], rfl⟩
  | x :: xs, h => by
    obtain ⟨b, rfl⟩ := h x (List.mem_cons_self ..)
    obtain ⟨bs, rfl⟩ := ints_of fun y hy => h y (List.mem_cons_of_mem _ hy)
    exact ⟨b :: bs, rfl⟩
theorem getD_l {l x : List Int} {p : Nat} (h : p < l.length) : (l ++ x).getD p 0 = l.getD p 0 := by
  rw [List.getD_eq_getElem?_getD, List.getD_eq_getElem?_getD, List.getElem?_append_left h]
theorem getD_r {l x : List Int} {p : Nat} (h : l.length ≤ p) : (l ++ x).getD p 0 = x.getD (p - l.length) 0 := by
  rw [List.getD_eq_getElem?_getD, List.getD_eq_getElem?_getD, List.getElem?_append_right h]
def sumsL (bs : List Int) : List Int := bs.foldl (fun f b => f ++ f.map (· + b)) [0]
theorem sums_snoc {bs : List Int} {b : Int} : sumsL (bs ++ [b]) = sumsL bs ++ (sumsL bs).map (· + b) := by
  unfold sumsL
  rw [List.foldl_append]
  rfl
theorem snocInd {P : List Int → Prop} (h0 : P []) (h1 : ∀ l x, P l → P (l ++ [x])) : ∀ l, P l := by
  have : ∀ n (l : List Int), l.length = n → P l := by
    intro n
    induction n with
    | zero => intro l hl; rw [List.length_eq_zero_iff.mp hl]; exact h0
    | succ n ih =>
      intro l hl
      have ne : l ≠ [] := fun e => by rw [e] at hl; simp at hl
      rw [← List.dropLast_concat_getLast ne]
      exact h1 _ _ (ih _ (by rw [List.length_dropLast, hl]; rfl))
  exact fun l => this _ l rfl
theorem sums_len (bs : List Int) : (sumsL bs).length = 2 ^ bs.length := by
  refine snocInd (P := fun bs => (sumsL bs).length = 2 ^ bs.length) rfl (fun l x ih => ?_) bs
  rw [sums_snoc, List.length_append, List.length_map, ih, List.length_append, List.length_singleton, Nat.pow_succ]
  omega
/-- the places of a set -/
def plN (m n : Nat) : List Nat := (List.range n).filter fun p => m.testBit p
theorem plN_succ {m n : Nat} : plN m (n + 1) = plN m n ++ if m.testBit n then [n] else [] := by
  unfold plN
  rw [List.range_succ, List.filter_append]
  congr 1
  cases h : m.testBit n <;> simp [h]
theorem plN_mem {m n p : Nat} (h : p ∈ plN m n) : p < n ∧ m.testBit p = true := by
  unfold plN at h
  rw [List.mem_filter, List.mem_range] at h
  exact h
theorem plN_of {m n p : Nat} (h : p < n) (hb : m.testBit p = true) : p ∈ plN m n := by
  unfold plN
  rw [List.mem_filter, List.mem_range]
  exact ⟨h, hb⟩
theorem plN_len {m n : Nat} : (plN m n).length ≤ n := by
  unfold plN
  exact Nat.le_trans (List.length_filter_le _ _) (by simp)
theorem plN_add {m n k : Nat} (h : k ≤ n) : plN (2 ^ n + m) k = plN m k := by
  unfold plN
  refine List.filter_congr fun p hp => ?_
  rw [List.mem_range] at hp
  exact Nat.testBit_two_pow_add_gt (by omega) m
theorem sumM_eq (bs : List Int) : ∀ m, m < 2 ^ bs.length → ((plN m bs.length).map fun p => bs.getD p 0).sum = (sumsL bs).getD m 0 := by
  refine snocInd (P := fun bs => ∀ m, m < 2 ^ bs.length → ((plN m bs.length).map fun p => bs.getD p 0).sum = (sumsL bs).getD m 0) ?_ (fun l x ih => ?_) bs
  · intro m hm
    have : m = 0 := by simpa using hm
    subst this
    rfl
  · intro m hm
    rw [List.length_append, List.length_singleton] at hm ⊢
    have old : ∀ k, (plN k l.length).map (fun p => (l ++ [x]).getD p 0) = (plN k l.length).map fun p => l.getD p 0 := fun k => List.map_congr_left fun p hp => by
      have := (plN_mem hp).1
      rw [getD_l this]
    rw [plN_succ, sums_snoc]
    have sl := sums_len l
    by_cases h : m < 2 ^ l.length
    · rw [Nat.testBit_lt_two_pow h]
      simp only [Bool.false_eq_true, if_false, List.append_nil]
      rw [old, ih m h, getD_l (by omega)]
    · obtain ⟨k, rfl⟩ : ∃ k, m = 2 ^ l.length + k := ⟨m - 2 ^ l.length, by omega⟩
      have hk : k < 2 ^ l.length := by rw [Nat.pow_succ] at hm; omega
      rw [Nat.testBit_two_pow_add_eq, Nat.testBit_lt_two_pow hk]
      simp only [Bool.not_false, if_true]
      rw [plN_add (Nat.le_refl _), List.map_append, List.sum_append, old, ih k hk, getD_r (by omega), sl, show 2 ^ l.length + k - 2 ^ l.length = k by omega]
      have hk2 : k < (sumsL l).length := by omega
      simp only [List.map_cons, List.map_nil, List.sum_cons, List.sum_nil]
      rw [getD_r (Nat.le_refl _), Nat.sub_self]
      simp only [List.getD_eq_getElem?_getD, List.getElem?_map, List.getElem?_eq_getElem hk2]
      simp
def BalOk (bs : List Int) : Prop := bs.length ≤ 8 ∧ bs.sum = 0 ∧ ∀ b ∈ bs, -(10 ^ 15) ≤ b ∧ b ≤ 10 ^ 15
def evI (bs : List Int) (m : Nat) : Int := if (sumsL bs).getD m 0 = 0 then 1 else 0
abbrev powsD : List PyData := [(.int (1)), (.int (2)), (.int (4)), (.int (8)), (.int (16)), (.int (32)), (.int (64)), (.int (128)), (.int (256))]
theorem pow_pick {p : Nat} {P : PyData → Prop} (h : p ≤ 8) (hp : P (.int ((2 ^ p : Nat) : Int))) : pick powsD (p : Int) P := by
  refine pick_at (d := .int ((2 ^ p : Nat) : Int)) ?_ hp
  match p, h with
  | 0, _ => rfl
  | 1, _ => rfl
  | 2, _ => rfl
  | 3, _ => rfl
  | 4, _ => rfl
  | 5, _ => rfl
  | 6, _ => rfl
  | 7, _ => rfl
  | 8, _ => rfl
theorem pow_le {p : Nat} (h : p ≤ 8) : 2 ^ p ≤ 256 := Nat.pow_le_pow_right (by decide) h
theorem bit_dec {m p : Nat} : decide (((m : Int) / ((2 ^ p : Nat) : Int)) % 2 = 1) = m.testBit p := by
  rw [Nat.testBit_eq_decide_div_mod_eq]
  refine decide_eq_decide.mpr ?_
  rw [← Int.natCast_ediv]
  omega
theorem are_balances_q {bs : List Int} (h : BalOk bs) (K : PyData → Prop) (hK : K (.bool true)) : q_are_balances (.tuple (bs.map .int)) K := by
  obtain ⟨h1, h2, h3⟩ := h
  unfold q_are_balances
  walk_at "q"
  rw [decide_eq_false (show ¬ (8 : Int) < (bs.length : Int) by omega)]
  walk_at "q"
  refine qLc_map (fun _ => .bool true) (by simp; omega) (fun d hd sk yd hy => ?_) ?_
  · obtain ⟨b, hb, rfl⟩ := List.mem_map.mp hd
    unfold qb_are_balances_1
    rw [is_whole_q]
    rw [show isW (.int b) = true from rfl]
    walk_at "q"
    rw [decide_eq_true (show (-1000000000000000 : Int) ≤ b by have := (h3 b hb).1; omega)]
    walk_at "q"
    rw [decide_eq_true (show b ≤ (1000000000000000 : Int) by have := (h3 b hb).2; omega)]
    exact hy
  · rw [q_allB, List.all_eq_true.mpr (fun _ _ => rfl)]
    walk_at "q"
    rw [h2]
    walk_at "q"
    exact hK
theorem need_balances_q {bs : List Int} (h : BalOk bs) (K : PyData → Prop) (hK : K .none) : q_need_balances (.tuple (bs.map .int)) K := by
  unfold q_need_balances
  refine are_balances_q h _ ?_
  walk_at "q"
  exact hK
theorem places_q {m n : Nat} (hn : n ≤ 8) (K : PyData → Prop) (h : K (.list ((plN m n).map fun p : Nat => PyData.int (p : Int)))) : q_places_of (.int (m : Int)) (.int (n : Int)) K := by
  unfold q_places_of
  walk_at "q"
  refine ⟨by omega, ?_⟩
  rw [Int.toNat_natCast]
  refine qLc_ind (fun k acc _ => acc = (plN m k).map fun p : Nat => PyData.int (p : Int)) rfl (fun k acc s hk hi => ?_) (fun k d acc s sk yd hd hi hsk hyd => ?_) fun acc s hi => ?_
  · subst hi
    rw [range_len] at hk
    have := plN_len (m := m) (n := k)
    rw [List.length_map]
    omega
  · obtain ⟨hk, rfl⟩ := range_get hd
    subst hi
    unfold qb_places_of_1
    rw [show (0 : Int) + (k : Int) = (k : Int) by omega]
    dsimp only
    walk_at "q"
    refine pow_pick (by omega) ?_
    have hp := pow_le (p := k) (by omega)
    have hp0 : 0 < 2 ^ k := Nat.pow_pos (by decide)
    walk_at "q"
    refine ⟨⟨by omega, sz_of (by omega) (by omega)⟩, by decide, ?_⟩
    rw [bit_dec]
    have e := plN_succ (m := m) (n := k)
    cases hb : m.testBit k with
    | true =>
      rw [hb] at e
      exact hyd _ _ (by rw [e]; simp)
    | false =>
      rw [hb] at e
      exact hsk _ (by rw [e]; simp)
  · rw [range_len] at hi
    subst hi
    exact h
theorem is_even_q {bs : List Int} {m : Nat} (hb : bs.length ≤ 8) (hm : m < 2 ^ bs.length) (K : PyData → Prop) (h : K (.bool (decide ((sumsL bs).getD m 0 = 0)))) : q_is_even (.tuple (bs.map .int)) (.int (m : Int)) K := by
  unfold q_is_even
  walk_at "q"
  refine places_q hb _ ?_
  walk_at "q"
  have pl := plN_len (m := m) (n := bs.length)
  refine qLc_ind (fun k acc _ => acc = (((plN m bs.length).take k).map fun p => bs.getD p 0).map .int) rfl (fun k acc s hk hi => ?_) (fun k d acc s sk yd hd hi hsk hyd => ?_) fun acc s hi => ?_
  · subst hi
    rw [List.length_map, List.length_map, List.length_take]
    omega
  · subst hi
    rw [List.getElem?_map] at hd
    obtain ⟨p, hp, rfl⟩ := Option.map_eq_some_iff.mp hd
    have hpn := (plN_mem (List.mem_of_getElem? hp)).1
    unfold qb_is_even_1
    walk_at "q"
    refine pick_at (d := .int (bs.getD p 0)) (by rw [List.getElem?_map, List.getElem?_eq_getElem hpn, List.getD_eq_getElem?_getD, List.getElem?_eq_getElem hpn]; rfl) ?_
    refine hyd _ _ ?_
    rw [List.take_add_one, hp]
    simp
  · rw [List.length_map, List.take_length] at hi
    subst hi
    walk_at "q"
    rw [sumM_eq bs m hm]
    exact h
theorem int_pick {vs : List Int} {m : Nat} {P : PyData → Prop} (h : m < vs.length) (hp : P (.int (vs.getD m 0))) : pick (vs.map .int) (m : Int) P :=
  pick_at (d := .int (vs.getD m 0)) (by rw [List.getElem?_map, List.getElem?_eq_getElem h, List.getD_eq_getElem?_getD, List.getElem?_eq_getElem h]; rfl) hp
theorem bit_sub {m p : Nat} (h : m.testBit p = true) : 2 ^ p ≤ m := by
  rcases Nat.lt_or_ge m (2 ^ p) with h2 | h2
  · rw [Nat.testBit_lt_two_pow h2] at h; cases h
  · exact h2
def toI (d : PyData) : Int := match d with
  | .int i => i
  | _ => 0
theorem last_pick {vs : List Int} {P : PyData → Prop} (h : 0 < vs.length) (hp : P (.int (vs.getD (vs.length - 1) 0))) : pick (vs.map .int) (-1) P := by
  refine pick_last (by simpa using h) fun d hd => ?_
  rw [List.length_map, List.getElem?_map, List.getElem?_eq_getElem (by omega)] at hd
  cases hd
  rwa [List.getD_eq_getElem?_getD, List.getElem?_eq_getElem (by omega)] at hp
def abB (bs vs : List Int) (m p : Nat) : Bool := decide (vs.getD (m - 2 ^ p) 0 + evI bs m ≤ vs.getD m 0)
theorem is_above_q {bs vs : List Int} {m : Nat} (hb : bs.length ≤ 8) (hv : vs.length = 2 ^ bs.length) (hm : m < vs.length) (K : PyData → Prop) (h : K (.bool ((plN m bs.length).all (abB bs vs m)))) :
    q_is_above (.tuple (bs.map .int)) (.tuple (vs.map .int)) (.int (m : Int)) K := by
  unfold q_is_above
  refine is_even_q hb (by omega) _ ?_
  walk_at "q"
  refine places_q hb _ ?_
  walk_at "q"
  have pl := plN_len (m := m) (n := bs.length)
  have ee : (if (sumsL bs).getD m 0 = 0 then (1 : Int) else 0) = evI bs m := rfl
  refine qLc_ind (fun k acc _ => acc = (((plN m bs.length).take k).map fun p => .bool (abB bs vs m p))) rfl (fun k acc s hk hi => ?_) (fun k d acc s sk yd hd hi hsk hyd => ?_) fun acc s hi => ?_
  · subst hi
    rw [List.length_map, List.length_take]
    omega
  · subst hi
    rw [List.getElem?_map] at hd
    obtain ⟨p, hp, rfl⟩ := Option.map_eq_some_iff.mp hd
    obtain ⟨hpn, hpb⟩ := plN_mem (List.mem_of_getElem? hp)
    unfold qb_is_above_1
    dsimp only
    walk_at "q"
    refine int_pick hm ?_
    walk_at "q"
    refine pow_pick (by omega) ?_
    have hs := bit_sub hpb
    walk_at "q"
    rw [show (m : Int) - ((2 ^ p : Nat) : Int) = ((m - 2 ^ p : Nat) : Int) by omega]
    refine int_pick (Nat.lt_of_le_of_lt (Nat.sub_le _ _) hm) ?_
    walk_at "q"
    refine hyd _ _ ?_
    rw [List.take_add_one, hp]
    simp only [Option.toList_some, List.map_append, List.map_cons, List.map_nil]
    first | rfl | (simp only [abB, evI, decide_eq_true_eq]; try rfl)
  · rw [List.length_map, List.take_length] at hi
    subst hi
    rw [q_all]
    rw [show boolsD ((plN m bs.length).map fun p => .bool (abB bs vs m p)) = some ((plN m bs.length).map (abB bs vs m)) from by
      generalize plN m bs.length = l
      induction l with
      | nil => rfl
      | cons a b ih => simp only [List.map_cons, boolsD, ih]; try rfl]
    show K (.bool (((plN m bs.length).map (abB bs vs m)).all id))
    rw [List.all_map]
    exact h
def okT (bs vs : List Int) : Bool := (List.range vs.length).all fun m => (plN m bs.length).all (abB bs vs m)
def saysT (bs vs : List Int) : PyData := if vs.getD 0 0 < 0 ∨ okT bs vs = false then .none else .int ((bs.length : Int) - vs.getD (vs.length - 1) 0)
def saysD (bs : List Int) (d : PyData) : PyData := match d with
  | .tuple xs => if xs.length = 2 ^ bs.length ∧ xs.all isW = true then saysT bs (xs.map toI) else .none
  | _ => .none
theorem wholes_of {xs : List PyData} (h : xs.all isW = true) : ∃ vs : List Int, xs = vs.map .int := ints_of fun y hy => by
  have := List.all_eq_true.mp h y hy
  cases y with
  | int i => exact ⟨i, rfl⟩
  | _ => cases this
theorem toI_map (vs : List Int) : (vs.map PyData.int).map toI = vs := by
  induction vs with
  | nil => rfl
  | cons a b ih => rw [List.map_cons, List.map_cons, ih]; rfl
theorem saysD_t {bs : List Int} {xs : List PyData} : saysD bs (.tuple xs) = if xs.length = 2 ^ bs.length ∧ xs.all isW = true then saysT bs (xs.map toI) else .none := rfl
theorem saysD_ok {bs vs : List Int} (h : vs.length = 2 ^ bs.length) : saysD bs (.tuple (vs.map .int)) = if vs.getD 0 0 < 0 ∨ okT bs vs = false then .none else .int ((bs.length : Int) - vs.getD (vs.length - 1) 0) := by
  have e : (vs.map PyData.int).all isW = true := by
    rw [List.all_eq_true]
    intro y hy
    obtain ⟨i, _, rfl⟩ := List.mem_map.mp hy
    rfl
  rw [saysD_t, if_pos ⟨by rw [List.length_map]; exact h, e⟩, toI_map]
  rfl
theorem saysD_len {bs : List Int} {xs : List PyData} (h : xs.length ≠ 2 ^ bs.length) : saysD bs (.tuple xs) = .none := by
  rw [saysD_t, if_neg fun z => h z.1]
theorem saysD_w {bs : List Int} {xs : List PyData} (h : xs.all isW = false) : saysD bs (.tuple xs) = .none := by
  rw [saysD_t, if_neg fun z => by rw [h] at z; exact Bool.noConfusion z.2]
theorem table_says_q {bs : List Int} (ok : BalOk bs) (d : PyData) (K : PyData → Prop) (h : K (saysD bs d)) : q_table_says (.tuple (bs.map .int)) d K := by
  have hb := ok.1
  unfold q_table_says
  refine need_balances_q ok _ ?_
  cases e : isiB d "tuple" with
  | false =>
    have : saysD bs d = .none := by
      cases d with
      | tuple xs => cases e
      | _ => rfl
    rw [this] at h
    walk_at "q"
    exact h
  | true =>
    obtain ⟨xs, rfl⟩ := isi_tup e
    walk_at "q"
    refine pow_pick hb ?_
    walk_at "q"
    by_cases hl : xs.length = 2 ^ bs.length
    · rw [decide_eq_true (show (xs.length : Int) = ((2 ^ bs.length : Nat) : Int) by omega)]
      walk_at "q"
      have hp := pow_le hb
      have hp0 : 0 < 2 ^ bs.length := Nat.pow_pos (by decide)
      refine qLc_map (fun d => .bool (isW d)) (by omega) (fun d hd sk yd hy => by unfold qb_table_says_1; rw [is_whole_q]; exact hy) ?_
      walk_at "q"
      cases hw : xs.all isW with
      | false =>
        rw [saysD_w hw] at h
        walk_at "q"
        exact h
      | true =>
        obtain ⟨vs, rfl⟩ := wholes_of hw
        rw [List.length_map] at hl
        rw [saysD_ok hl] at h
        walk_at "q"
        rw [show (0 : Int) = ((0 : Nat) : Int) from rfl]
        refine int_pick (by omega) ?_
        walk_at "q"
        by_cases h0 : vs.getD 0 0 < 0
        · rw [if_pos (.inl h0)] at h
          rw [decide_eq_true (show vs.getD 0 0 < ((0 : Nat) : Int) from h0)]
          walk_at "q"
          exact h
        · rw [decide_eq_false (show ¬ vs.getD 0 0 < ((0 : Nat) : Int) from h0)]
          walk_at "q"
          refine ⟨by omega, ?_⟩
          refine qLc_map (fun d => .bool ((plN (toI d).toNat bs.length).all (abB bs vs (toI d).toNat))) (by simp [rangeD]; omega) (fun d hd sk yd hy => ?_) ?_
          · unfold rangeD at hd
            obtain ⟨k, hk, rfl⟩ := List.mem_map.mp hd
            rw [List.mem_range] at hk
            unfold qb_table_says_2
            have e1 : (toI (.int (1 + (k : Int)))).toNat = k + 1 := by show (1 + (k : Int)).toNat = _; omega
            rw [e1] at hy
            rw [show (1 : Int) + (k : Int) = ((k + 1 : Nat) : Int) by omega]
            exact is_above_q hb hl (by omega) _ hy
          · rw [q_allB]
            have e2 : ((rangeD 1 ((vs.length : Int) - 1).toNat).all fun d => (plN (toI d).toNat bs.length).all (abB bs vs (toI d).toNat)) = okT bs vs := by
              unfold okT rangeD
              rw [List.all_map]
              obtain ⟨n, hn⟩ : ∃ n, vs.length = n + 1 := ⟨vs.length - 1, by omega⟩
              rw [hn, show (((n + 1 : Nat) : Int) - 1).toNat = n by omega, List.range_succ_eq_map, List.all_cons, List.all_map]
              have e0 : plN 0 bs.length = [] := by
                unfold plN
                rw [List.filter_eq_nil_iff]
                intro p _
                simp
              rw [e0, List.all_nil, Bool.true_and]
              congr 1
              funext k
              show (plN (1 + (k : Int)).toNat bs.length).all (abB bs vs (1 + (k : Int)).toNat) = _
              rw [show (1 + (k : Int)).toNat = k + 1 by omega]
              rfl
            rw [e2]
            walk_at "q"
            cases ho : okT bs vs with
            | false =>
              rw [if_pos (.inr ho)] at h
              walk_at "q"
              exact h
            | true =>
              rw [if_neg (fun z => by rcases z with z | z; exact h0 z; rw [ho] at z; cases z)] at h
              walk_at "q"
              refine last_pick (by omega) ?_
              walk_at "q"
              exact h
    · rw [saysD_len hl] at h
      rw [decide_eq_false (show ¬ (xs.length : Int) = ((2 ^ bs.length : Nat) : Int) by omega)]
      walk_at "q"
      exact h
theorem perm_sum {l m : List Int} (h : l.Perm m) : l.sum = m.sum := by
  induction h with
  | nil => rfl
  | cons x _ ih => rw [List.sum_cons, List.sum_cons, ih]
  | swap x y l => rw [List.sum_cons, List.sum_cons, List.sum_cons, List.sum_cons]; omega
  | trans _ _ h1 h2 => exact h1.trans h2
theorem BalOk.perm {l m : List Int} (h : BalOk m) (p : l.Perm m) : BalOk l := ⟨by rw [p.length_eq]; exact h.1, by rw [perm_sum p]; exact h.2.1, fun b hb => h.2.2 b (p.mem_iff.mp hb)⟩
theorem sum_rep (n : Nat) : (List.replicate n (0 : Int)).sum = 0 := by
  induction n with
  | zero => rfl
  | succ n ih => rw [List.replicate_succ, List.sum_cons, ih]; rfl
def Sb (w m : Nat) : Prop := ∀ i, w.testBit i = true → m.testBit i = true
theorem Sb.refl (m : Nat) : Sb m m := fun _ h => h
theorem Sb.zero (m : Nat) : Sb 0 m := fun i h => by simp at h
theorem Sb.trans {a b c : Nat} (h : Sb a b) (k : Sb b c) : Sb a c := fun i z => k i (h i z)
theorem Sb.half {w m : Nat} (h : Sb w m) : Sb (w / 2) (m / 2) := fun i z => by
  have := h (i + 1)
  rw [Nat.testBit_succ, Nat.testBit_succ] at this
  exact this z
theorem Sb.low {w m : Nat} (h : Sb w m) : w % 2 ≤ m % 2 := by
  have := h 0
  rw [Nat.testBit_zero, Nat.testBit_zero, decide_eq_true_eq, decide_eq_true_eq] at this
  omega
theorem Sb.of {w m : Nat} (h0 : w % 2 ≤ m % 2) (h : Sb (w / 2) (m / 2)) : Sb w m := fun i z => by
  cases i with
  | zero =>
    rw [Nat.testBit_zero, decide_eq_true_eq] at z ⊢
    omega
  | succ i =>
    rw [Nat.testBit_succ] at z ⊢
    exact h i z
theorem Sb.le : ∀ {m w : Nat}, Sb w m → w ≤ m := by
  intro m
  induction m using Nat.strongRecOn with
  | ind m ih =>
    intro w h
    by_cases hm : m = 0
    · subst hm
      have : w = 0 := Nat.eq_of_testBit_eq fun i => by
        cases e : w.testBit i with
        | false => simp
        | true => exact absurd (h i e) (by simp)
      omega
    · have := ih (m / 2) (by omega) h.half
      have := h.low
      omega
theorem sub_bit : ∀ {m w : Nat}, Sb w m → ∀ i, (m - w).testBit i = (m.testBit i && !w.testBit i) := by
  intro m
  induction m using Nat.strongRecOn with
  | ind m ih =>
    intro w h i
    have hle := h.le
    have hlo := h.low
    have hh := h.half.le
    by_cases hm : m = 0
    · subst hm
      have : w = 0 := by omega
      subst this
      simp
    · cases i with
      | zero =>
        rw [Nat.testBit_zero, Nat.testBit_zero, Nat.testBit_zero]
        rcases Nat.mod_two_eq_zero_or_one m with e1 | e1 <;> rcases Nat.mod_two_eq_zero_or_one w with e2 | e2
        · rw [show (m - w) % 2 = 0 by omega, e1, e2]; rfl
        · omega
        · rw [show (m - w) % 2 = 1 by omega, e1, e2]; rfl
        · rw [show (m - w) % 2 = 0 by omega, e1, e2]; rfl
      | succ i =>
        rw [Nat.testBit_succ, Nat.testBit_succ, Nat.testBit_succ, show (m - w) / 2 = m / 2 - w / 2 by omega]
        exact ih (m / 2) (by omega) h.half i
theorem Sb.sub {w m : Nat} (h : Sb w m) : Sb (m - w) m := fun i z => by
  rw [sub_bit h, Bool.and_eq_true] at z
  exact z.1
/-- a part of what is left beside -/
theorem Sb.beside {a w m : Nat} (h : Sb w m) (ha : Sb a m) (hd : ∀ i, a.testBit i = true → w.testBit i = false) : Sb a (m - w) := fun i z => by
  rw [sub_bit h, ha i z, hd i z]
  rfl
theorem Sb.diff {a b m : Nat} (h : Sb a b) (hb : Sb b m) : Sb (b - a) (m - a) := fun i z => by
  rw [sub_bit h, Bool.and_eq_true] at z
  rw [sub_bit (h.trans hb), hb i z.1]
  exact z.2
theorem sb_pow {p m : Nat} (h : m.testBit p = true) : Sb (2 ^ p) m := fun i z => by
  rw [Nat.testBit_two_pow, decide_eq_true_eq] at z
  subst z
  exact h
theorem pow_bit {p i : Nat} : (2 ^ p).testBit i = decide (p = i) := Nat.testBit_two_pow
/-- what the balances of a set come to -/
def sv : List Int → Nat → Int
  | [], _ => 0
  | b :: bs, m => (if m % 2 = 1 then b else 0) + sv bs (m / 2)
theorem sv_zero : ∀ bs : List Int, sv bs 0 = 0
  | [] => rfl
  | b :: bs => by
    show (if 0 % 2 = 1 then b else 0) + sv bs (0 / 2) = 0
    rw [Nat.zero_div, sv_zero bs]
    simp
theorem sv_split : ∀ {bs : List Int} {m w : Nat}, Sb w m → sv bs m = sv bs w + sv bs (m - w)
  | [], _, _, _ => rfl
  | b :: bs, m, w, h => by
    have ih := sv_split (bs := bs) h.half
    have hle := h.le
    have hlo := h.low
    have hh := h.half.le
    show (if m % 2 = 1 then b else 0) + sv bs (m / 2) = ((if w % 2 = 1 then b else 0) + sv bs (w / 2)) + ((if (m - w) % 2 = 1 then b else 0) + sv bs ((m - w) / 2))
    rw [show (m - w) / 2 = m / 2 - w / 2 by omega, ih]
    rcases Nat.mod_two_eq_zero_or_one m with e1 | e1 <;> rcases Nat.mod_two_eq_zero_or_one w with e2 | e2
    · rw [show (m - w) % 2 = 0 by omega, e1, e2]; simp
    · omega
    · rw [show (m - w) % 2 = 1 by omega, e1, e2]; simp; omega
    · rw [show (m - w) % 2 = 0 by omega, e1, e2]; simp; omega
theorem sv_pow : ∀ {bs : List Int} {p : Nat}, sv bs (2 ^ p) = bs.getD p 0
  | [], p => by simp [sv]
  | b :: bs, 0 => by
    show (if 2 ^ 0 % 2 = 1 then b else 0) + sv bs (2 ^ 0 / 2) = b
    have : 2 ^ 0 / 2 = 0 := rfl
    rw [this, sv_zero]
    simp
  | b :: bs, p + 1 => by
    show (if 2 ^ (p + 1) % 2 = 1 then b else 0) + sv bs (2 ^ (p + 1) / 2) = _
    rw [show 2 ^ (p + 1) % 2 = 0 by rw [Nat.pow_succ]; omega, show 2 ^ (p + 1) / 2 = 2 ^ p by rw [Nat.pow_succ]; omega, sv_pow (bs := bs)]
    simp
theorem sv_snoc : ∀ {l : List Int} {x : Int} {m : Nat}, sv (l ++ [x]) m = sv l m + if m.testBit l.length then x else 0
  | [], x, m => by
    show (if m % 2 = 1 then x else 0) + 0 = 0 + _
    rw [List.length_nil, Nat.testBit_zero]
    simp
  | b :: l, x, m => by
    show (if m % 2 = 1 then b else 0) + sv (l ++ [x]) (m / 2) = ((if m % 2 = 1 then b else 0) + sv l (m / 2)) + _
    rw [sv_snoc (l := l), List.length_cons, Nat.testBit_succ]
    omega
theorem sv_high : ∀ {l : List Int} {m : Nat}, sv l (2 ^ l.length + m) = sv l m
  | [], _ => rfl
  | b :: l, m => by
    show (if (2 ^ (l.length + 1) + m) % 2 = 1 then b else 0) + sv l ((2 ^ (l.length + 1) + m) / 2) = (if m % 2 = 1 then b else 0) + sv l (m / 2)
    rw [show (2 ^ (l.length + 1) + m) % 2 = m % 2 by rw [Nat.pow_succ]; omega, show (2 ^ (l.length + 1) + m) / 2 = 2 ^ l.length + m / 2 by rw [Nat.pow_succ]; omega, sv_high]
theorem sums_sv (bs : List Int) : ∀ m, m < 2 ^ bs.length → (sumsL bs).getD m 0 = sv bs m := by
  refine snocInd (P := fun bs => ∀ m, m < 2 ^ bs.length → (sumsL bs).getD m 0 = sv bs m) ?_ (fun l x ih => ?_) bs
  · intro m hm
    have : m = 0 := by simpa using hm
    subst this
    rfl
  · intro m hm
    rw [List.length_append, List.length_singleton] at hm
    have sl := sums_len l
    rw [sums_snoc, sv_snoc]
    by_cases h : m < 2 ^ l.length
    · rw [getD_l (by omega), ih m h, Nat.testBit_lt_two_pow h]
      simp
    · obtain ⟨k, rfl⟩ : ∃ k, m = 2 ^ l.length + k := ⟨m - 2 ^ l.length, by omega⟩
      have hk : k < 2 ^ l.length := by rw [Nat.pow_succ] at hm; omega
      have hk2 : k < (sumsL l).length := by omega
      rw [getD_r (by omega), sl, show 2 ^ l.length + k - 2 ^ l.length = k by omega, Nat.testBit_two_pow_add_eq, Nat.testBit_lt_two_pow hk, sv_high, ← ih k hk]
      simp only [List.getD_eq_getElem?_getD, List.getElem?_map, List.getElem?_eq_getElem hk2]
      simp
inductive Lots (bs : List Int) : Nat → Nat → Prop
  | zero (m : Nat) : Lots bs m 0
  | more {m w n : Nat} : Sb w m → w ≠ 0 → sv bs w = 0 → Lots bs (m - w) n → Lots bs m (n + 1)
section
variable {bs : List Int}
theorem Lots.mono {w n : Nat} (h : Lots bs w n) : ∀ {m : Nat}, Sb w m → Lots bs m n := by
  induction h with
  | zero => exact fun _ => .zero _
  | more h1 h2 h3 _ ih => exact fun hs => .more (h1.trans hs) h2 h3 (ih (h1.diff hs))
theorem bit_of {m : Nat} (h : m ≠ 0) : ∃ p, m.testBit p = true := by
  by_cases z : ∃ p, m.testBit p = true
  · exact z
  · exact absurd (Nat.eq_of_testBit_eq fun i => by
      cases e : m.testBit i with
      | false => simp
      | true => exact absurd ⟨i, e⟩ z) h
theorem sub_sub_pow {m w p : Nat} : m - 2 ^ p - w = m - w - 2 ^ p := by omega
theorem Sb.pow_not {m w p : Nat} (h : Sb w m) (hp : m.testBit p = true) (hw : w.testBit p = false) : Sb w (m - 2 ^ p) := Sb.beside (sb_pow hp) h fun i z => by
  rw [pow_bit]
  exact decide_eq_false fun e => by subst e; rw [hw] at z; cases z
/-- lots within a set: one place may go, or they are all of it -/
theorem Lots.step {m n : Nat} (h : Lots bs m n) : m ≠ 0 → (∃ p, m.testBit p = true ∧ Lots bs (m - 2 ^ p) n) ∨ (sv bs m = 0 ∧ 1 ≤ n ∧ ∃ p, m.testBit p = true ∧ Lots bs (m - 2 ^ p) (n - 1)) := by
  induction h with
  | zero m =>
    intro hm
    obtain ⟨p, hp⟩ := bit_of hm
    exact .inl ⟨p, hp, .zero _⟩
  | @more m w n h1 h2 h3 hr ih =>
    intro hm
    by_cases hz : m - w = 0
    · have e : m = w := by have := h1.le; omega
      subst e
      obtain ⟨p, hp⟩ := bit_of hm
      rw [hz] at hr
      exact .inr ⟨h3, by omega, p, hp, hr.mono (Sb.zero _)⟩
    · have key : ∀ {p : Nat}, (m - w).testBit p = true → m.testBit p = true ∧ Sb w (m - 2 ^ p) := fun {p} hp => by
        rw [sub_bit h1, Bool.and_eq_true] at hp
        exact ⟨hp.1, h1.pow_not hp.1 (by simpa using hp.2)⟩
      rcases ih hz with ⟨p, hp, hl⟩ | ⟨hs, hn, p, hp, hl⟩
      · obtain ⟨k1, k2⟩ := key hp
        exact .inl ⟨p, k1, .more k2 h2 h3 (by rw [sub_sub_pow]; exact hl)⟩
      · obtain ⟨k1, k2⟩ := key hp
        refine .inr ⟨by rw [sv_split h1, h3, hs]; rfl, by omega, p, k1, ?_⟩
        obtain ⟨k, rfl⟩ : ∃ k, n = k + 1 := ⟨n - 1, by omega⟩
        exact .more k2 h2 h3 (by rw [sub_sub_pow]; exact hl)
/-- what is over is a lot, too -/
theorem Lots.rest {x n : Nat} (h : Lots bs x n) : ∀ {m : Nat}, Sb x m → x ≠ m → sv bs m = 0 → Lots bs m (n + 1) := by
  induction h with
  | zero x =>
    intro m hs hne hm
    have hm0 : m ≠ 0 := fun z => hne (by have := hs.le; omega)
    exact .more (Sb.refl m) hm0 hm (by rw [Nat.sub_self]; exact .zero _)
  | @more x w n h1 h2 h3 hr ih =>
    intro m hs hne hm
    have hw := h1.trans hs
    refine .more hw h2 h3 (ih (h1.diff hs) (fun z => hne ?_) ?_)
    · have := h1.le
      have := hs.le
      omega
    · have := sv_split (bs := bs) hw
      omega
/-- the lot with a place goes, or the place -/
theorem Lots.at_ {m n : Nat} (h : Lots bs m n) : ∀ {k : Nat}, m.testBit k = true → Lots bs (m - 2 ^ k) n ∨ ∃ w, Sb w m ∧ w.testBit k = true ∧ sv bs w = 0 ∧ 1 ≤ n ∧ Lots bs (m - w) (n - 1) := by
  induction h with
  | zero m => exact fun _ => .inl (.zero _)
  | @more m w n h1 h2 h3 hr ih =>
    intro k hk
    cases e : w.testBit k with
    | true => exact .inr ⟨w, h1, e, h3, by omega, hr⟩
    | false =>
      have hk2 : (m - w).testBit k = true := by rw [sub_bit h1, hk, e]; rfl
      rcases ih hk2 with hl | ⟨w', s1, s2, s3, s4, s5⟩
      · exact .inl (.more (h1.pow_not hk e) h2 h3 (by rw [sub_sub_pow]; exact hl))
      · refine .inr ⟨w', s1.trans h1.sub, s2, s3, by omega, ?_⟩
        obtain ⟨j, rfl⟩ : ∃ j, n = j + 1 := ⟨n - 1, by omega⟩
        refine .more (Sb.beside (s1.trans h1.sub) h1 fun i z => ?_) h2 h3 (by rw [show m - w' - w = m - w - w' by omega]; exact s5)
        cases q : w'.testBit i with
        | false => rfl
        | true =>
          have := s1 i q
          rw [sub_bit h1, z] at this
          simp at this
end
/-- the most lots -/
def Most (bs : List Int) (m v : Nat) : Prop := Lots bs m v ∧ ∀ n, Lots bs m n → n ≤ v
theorem Most.uniq {bs : List Int} {m v v' : Nat} (h : Most bs m v) (h' : Most bs m v') : v = v' := Nat.le_antisymm (h'.2 _ h.1) (h.2 _ h'.1)
theorem most_zero {bs : List Int} : Most bs 0 0 := ⟨.zero _, fun n h => by
  cases h with
  | zero => exact Nat.le_refl _
  | more h1 h2 _ _ => exact absurd (Nat.le_zero.mp h1.le) h2⟩
/-- by the sets with one place less -/
theorem most_step {bs : List Int} {m v : Nat} (hm : m ≠ 0) {f : Nat → Nat} (hf : ∀ p, m.testBit p = true → Most bs (m - 2 ^ p) (f p)) {q : Nat} (hq : m.testBit q = true) (hv : f q = v) (hmax : ∀ p, m.testBit p = true → f p ≤ v) : Most bs m (v + if sv bs m = 0 then 1 else 0) := by
  subst hv
  constructor
  · split
    · rename_i h0
      refine (hf q hq).1.rest (sb_pow hq).sub (fun z => ?_) h0
      have := (sb_pow hq).le
      have : 0 < 2 ^ q := Nat.pow_pos (by decide)
      omega
    · exact (hf q hq).1.mono (sb_pow hq).sub
  · intro n hn
    rcases hn.step hm with ⟨p, hp, hl⟩ | ⟨h0, h1, p, hp, hl⟩
    · have := (hf p hp).2 _ hl
      have := hmax p hp
      omega
    · have := (hf p hp).2 _ hl
      have := hmax p hp
      rw [if_pos h0]
      omega
def msk (l : List Nat) : Nat := (l.map (2 ^ ·)).sum
theorem msk_cons {p : Nat} {l : List Nat} : msk (p :: l) = 2 ^ p + msk l := rfl
theorem add_pow_bit {p x : Nat} (h : x.testBit p = false) (i : Nat) : (2 ^ p + x).testBit i = (decide (p = i) || x.testBit i) := by
  have hs : Sb (2 ^ p) (2 ^ p + x) := sb_pow (by rw [Nat.testBit_two_pow_add_eq, h]; rfl)
  have := sub_bit hs i
  rw [Nat.add_sub_cancel_left, pow_bit] at this
  by_cases e : p = i
  · subst e
    rw [Nat.testBit_two_pow_add_eq, h, decide_eq_true rfl]
    rfl
  · rw [decide_eq_false e] at this ⊢
    rw [this]
    simp
theorem msk_bit : ∀ {l : List Nat}, l.Nodup → ∀ i, (msk l).testBit i = decide (i ∈ l)
  | [], _, i => by simp [msk]
  | p :: l, nd, i => by
    have nd := List.nodup_cons.mp nd
    rw [msk_cons, add_pow_bit (by rw [msk_bit nd.2, decide_eq_false nd.1]), msk_bit nd.2]
    by_cases e : p = i
    · subst e; simp
    · simp [e, Ne.symm e]
theorem msk_sv {bs : List Int} : ∀ {l : List Nat}, l.Nodup → sv bs (msk l) = (l.map fun p => bs.getD p 0).sum
  | [], _ => by simp [msk, sv_zero]
  | p :: l, nd => by
    have nd := List.nodup_cons.mp nd
    have hs : Sb (2 ^ p) (2 ^ p + msk l) := sb_pow (by rw [Nat.testBit_two_pow_add_eq, msk_bit nd.2, decide_eq_false nd.1]; rfl)
    rw [msk_cons, sv_split hs, Nat.add_sub_cancel_left, sv_pow, msk_sv nd.2, List.map_cons, List.sum_cons]
/-- lists of places apart, each 0 together -/
theorem lots_lists {bs : List Int} : ∀ {ls : List (List Nat)} {m : Nat}, ls.flatten.Nodup → (∀ p ∈ ls.flatten, m.testBit p = true) → (∀ l ∈ ls, l ≠ [] ∧ (l.map fun p => bs.getD p 0).sum = 0) → Lots bs m ls.length
  | [], _, _, _, _ => .zero _
  | l :: ls, m, nd, hm, h => by
    rw [List.flatten_cons, List.nodup_append] at nd
    obtain ⟨h1, h2⟩ := h l List.mem_cons_self
    have hb := msk_bit nd.1
    have hs : Sb (msk l) m := fun i z => by
      rw [hb, decide_eq_true_eq] at z
      exact hm i (by rw [List.flatten_cons]; exact List.mem_append_left _ z)
    refine .more hs (fun z => ?_) (by rw [msk_sv nd.1]; exact h2) (lots_lists nd.2.1 (fun p hp => ?_) fun l' hl' => h l' (List.mem_cons_of_mem _ hl'))
    · obtain ⟨p, q⟩ := List.exists_mem_of_ne_nil _ h1
      have := hb p
      rw [z, decide_eq_true q] at this
      simp at this
    · rw [sub_bit hs, hm p (by rw [List.flatten_cons]; exact List.mem_append_right _ hp), hb, decide_eq_false fun z => nd.2.2 p z p hp rfl]
      rfl
theorem q_maxLZ {ns : List Int} {P : PyData → Prop} : nMaxL [.list (ns.map .int)] P = (0 < ns.length ∧ ∀ m, m ∈ ns → (∀ a ∈ ns, a ≤ m) → P (.int m)) := by
  show maxQ (intsD (ns.map .int)) P = _
  rw [DL.ints_map]
  rfl
def zI (vs : List Nat) : List Int := vs.map fun v : Nat => (v : Int)
theorem zI_get {vs : List Nat} {m : Nat} : (zI vs).getD m 0 = ((vs.getD m 0 : Nat) : Int) := by
  unfold zI
  rw [List.getD_eq_getElem?_getD, List.getD_eq_getElem?_getD, List.getElem?_map]
  cases vs[m]? <;> rfl
theorem zI_len {vs : List Nat} : (zI vs).length = vs.length := by unfold zI; rw [List.length_map]
theorem zI_snoc {vs : List Nat} {b : Nat} : (zI vs).map PyData.int ++ [.int (b : Int)] = (zI (vs ++ [b])).map .int := by
  unfold zI
  rw [List.map_append, List.map_append]
  rfl
theorem nat_pick {vs : List Nat} {m : Nat} {P : PyData → Prop} (h : m < vs.length) (hp : P (.int ((vs.getD m 0 : Nat) : Int))) : pick ((zI vs).map .int) (m : Int) P :=
  int_pick (by rw [zI_len]; exact h) (by rw [zI_get]; exact hp)
def TabL (bs : List Int) (j : Nat) (vs : List Nat) : Prop := vs.length = j ∧ ∀ m, m < j → Most bs m (vs.getD m 0)
theorem TabL.uniq {bs : List Int} {j : Nat} {vs ws : List Nat} (h : TabL bs j vs) (k : TabL bs j ws) : vs = ws := by
  refine List.ext_getElem (by rw [h.1, k.1]) fun i h1 h2 => ?_
  have := (h.2 i (by rw [← h.1]; exact h1)).uniq (k.2 i (by rw [← h.1]; exact h1))
  rw [List.getD_eq_getElem?_getD, List.getD_eq_getElem?_getD, List.getElem?_eq_getElem h1, List.getElem?_eq_getElem h2] at this
  exact this
theorem TabL.snoc {bs : List Int} {j v : Nat} {vs : List Nat} (h : TabL bs j vs) (hv : Most bs j v) : TabL bs (j + 1) (vs ++ [v]) := by
  refine ⟨by rw [List.length_append, h.1]; rfl, fun m hm => ?_⟩
  rcases Nat.lt_succ_iff_lt_or_eq.mp hm with z | z
  · rw [List.getD_eq_getElem?_getD, List.getElem?_append_left (by rw [h.1]; exact z), ← List.getD_eq_getElem?_getD]
    exact h.2 m z
  · subst z
    rw [List.getD_eq_getElem?_getD, List.getElem?_append_right (by rw [h.1]; exact Nat.le_refl _), h.1, Nat.sub_self]
    exact hv
theorem bit_lt {m p n : Nat} (hm : m < 2 ^ n) (h : m.testBit p = true) : p < n := by
  rcases Nat.lt_or_ge p n with z | z
  · exact z
  · have : m < 2 ^ p := Nat.lt_of_lt_of_le hm (Nat.pow_le_pow_right (by decide) z)
    rw [Nat.testBit_lt_two_pow this] at h
    cases h
theorem table_of_q {bs : List Int} (hb : bs.length ≤ 8) (K : PyData → Prop) (h : ∀ vs, TabL bs (2 ^ bs.length) vs → K (.list ((zI vs).map .int))) : q_table_of (.tuple (bs.map .int)) K := by
  unfold q_table_of
  have hpw := pow_le hb
  have hp0 : 0 < 2 ^ bs.length := Nat.pow_pos (by decide)
  walk_at "q"
  refine pow_pick hb ?_
  walk_at "q"
  refine ⟨by omega, ?_⟩
  rw [show (((2 ^ bs.length : Nat) : Int) - 1).toNat = 2 ^ bs.length - 1 by omega]
  refine qFor_range (fun k s => ∃ vs, s = (zI vs).map .int ∧ TabL bs (k + 1) vs) ⟨[0], rfl, rfl, fun m hm => ?_⟩ (fun k s nx hk hs hnx => ?_) fun s hs => ?_
  · obtain rfl : m = 0 := by omega
    exact most_zero
  · obtain ⟨vs, rfl, hv⟩ := hs
    unfold qb_table_of_1
    have hlt : k + 1 < 2 ^ bs.length := by omega
    rw [show (1 : Int) + (k : Int) = ((k + 1 : Nat) : Int) by omega]
    walk_at "q"
    refine places_q hb _ ?_
    walk_at "q"
    have pl := plN_len (m := k + 1) (n := bs.length)
    have hvl := hv.1
    refine qLc_ind (fun j acc _ => acc = (((plN (k + 1) bs.length).take j).map fun p => ((vs.getD (k + 1 - 2 ^ p) 0 : Nat) : Int)).map .int) rfl (fun j acc s hj hi => ?_) (fun j d acc s sk yd hd hi hsk hyd => ?_) fun acc s hi => ?_
    · subst hi
      rw [List.length_map, List.length_map, List.length_take]
      omega
    · subst hi
      rw [List.getElem?_map] at hd
      obtain ⟨p, hp, rfl⟩ := Option.map_eq_some_iff.mp hd
      obtain ⟨hpn, hpb⟩ := plN_mem (List.mem_of_getElem? hp)
      unfold qb_table_of_2
      dsimp only
      walk_at "q"
      refine pow_pick (by omega) ?_
      have hs := bit_sub hpb
      have hq : 0 < 2 ^ p := Nat.pow_pos (by decide)
      walk_at "q"
      rw [show ((k + 1 : Nat) : Int) - ((2 ^ p : Nat) : Int) = ((k + 1 - 2 ^ p : Nat) : Int) by omega]
      refine nat_pick (by omega) ?_
      refine hyd _ _ ?_
      rw [List.take_add_one, hp]
      simp
    · rw [List.length_map, List.take_length] at hi
      subst hi
      rw [q_maxLZ]
      have ne : ∃ p, p ∈ plN (k + 1) bs.length := by
        obtain ⟨p, hp⟩ := bit_of (m := k + 1) (by omega)
        exact ⟨p, plN_of (bit_lt hlt hp) hp⟩
      obtain ⟨p0, hp0⟩ := ne
      refine ⟨by rw [List.length_map]; exact List.length_pos_of_mem hp0, fun mx hm hmax => ?_⟩
      obtain ⟨q, hq, rfl⟩ := List.mem_map.mp hm
      refine is_even_q hb hlt _ ?_
      rw [sums_sv bs _ hlt]
      walk_at "q"
      rw [show ((vs.getD (k + 1 - 2 ^ q) 0 : Nat) : Int) + (if decide (sv bs (k + 1) = 0) = true then 1 else 0) = ((vs.getD (k + 1 - 2 ^ q) 0 + (if sv bs (k + 1) = 0 then 1 else 0) : Nat) : Int) by
        by_cases z : sv bs (k + 1) = 0 <;> simp [z]]
      refine ⟨by rw [zI_len]; omega, hnx _ ⟨_, zI_snoc, hv.snoc ?_⟩⟩
      obtain ⟨hqn, hqb⟩ := plN_mem hq
      refine most_step (f := fun p => vs.getD (k + 1 - 2 ^ p) 0) (by omega) (fun p hp => hv.2 _ ?_) hqb rfl fun p hp => ?_
      · have := bit_sub hp
        have : 0 < 2 ^ p := Nat.pow_pos (by decide)
        omega
      · have := hmax _ (List.mem_map.mpr ⟨p, plN_of (bit_lt hlt hp) hp, rfl⟩)
        exact Int.ofNat_le.mp this
  · obtain ⟨vs, rfl, hv⟩ := hs
    rw [show 2 ^ bs.length - 1 + 1 = 2 ^ bs.length by omega] at hv
    exact h vs hv
def rsum (bs : List Int) (l : List Nat) : Int := (l.map fun p => bs.getD p 0).sum
def natDs (l : List Nat) : List PyData := l.map fun p : Nat => PyData.int (p : Int)
def rwD (ls : List (List Nat)) : List (List PyData) := ls.map natDs
section
variable {bs : List Int}
theorem rsum_app {a b : List Nat} : rsum bs (a ++ b) = rsum bs a + rsum bs b := by
  unfold rsum
  rw [List.map_append, List.sum_append]
theorem rsum_perm {a b : List Nat} (h : a.Perm b) : rsum bs a = rsum bs b := perm_sum (h.map _)
theorem rsum_range : rsum bs (List.range bs.length) = bs.sum := by
  unfold rsum
  congr 1
  refine List.ext_getElem (by simp) fun i h1 h2 => ?_
  rw [List.getElem_map, List.getElem_range, List.getD_eq_getElem?_getD, List.getElem?_eq_getElem h2]
  rfl
theorem rsum_plN {m : Nat} (h : m < 2 ^ bs.length) : rsum bs (plN m bs.length) = sv bs m := by
  unfold rsum
  rw [sumM_eq bs m h, sums_sv bs m h]
theorem rsum_zero : ∀ {ls : List (List Nat)}, (∀ l ∈ ls, rsum bs l = 0) → rsum bs ls.flatten = 0
  | [], _ => rfl
  | l :: ls, h => by
    rw [List.flatten_cons, rsum_app, h l List.mem_cons_self, rsum_zero fun x hx => h x (List.mem_cons_of_mem _ hx)]
    rfl
end
theorem plN_nodup {m n : Nat} : (plN m n).Nodup := by
  unfold plN
  exact List.Pairwise.filter _ List.nodup_range
theorem plN_take {m n p : Nat} (hn : p < n) (h : m.testBit p = true) : (plN m n).Perm (p :: plN (m - 2 ^ p) n) := by
  have hs := sub_bit (sb_pow h)
  refine (List.perm_ext_iff_of_nodup plN_nodup (List.nodup_cons.mpr ⟨fun z => ?_, plN_nodup⟩)).mpr fun a => ⟨fun ha => ?_, fun ha => ?_⟩
  · have := (plN_mem z).2
    rw [hs, pow_bit, decide_eq_true rfl] at this
    simp at this
  · obtain ⟨h1, h2⟩ := plN_mem ha
    by_cases e : p = a
    · subst e; exact List.mem_cons_self
    · refine List.mem_cons_of_mem _ (plN_of h1 ?_)
      rw [hs, h2, pow_bit, decide_eq_false e]
      rfl
  · rcases List.mem_cons.mp ha with rfl | ha
    · exact plN_of hn h
    · obtain ⟨h1, h2⟩ := plN_mem ha
      rw [hs, Bool.and_eq_true] at h2
      exact plN_of h1 h2.1
/-- the most lots come from one place less -/
theorem most_pick {bs : List Int} {m v : Nat} (h : Most bs m v) (hm : m ≠ 0) {f : Nat → Nat} (hf : ∀ p, m.testBit p = true → Most bs (m - 2 ^ p) (f p)) : ∃ p, m.testBit p = true ∧ f p + (if sv bs m = 0 then 1 else 0) = v := by
  have rest : sv bs m = 0 → ∀ p, m.testBit p = true → f p + 1 ≤ v := fun h0 p hp => by
    refine h.2 _ ((hf p hp).1.rest (sb_pow hp).sub (fun z => ?_) h0)
    have := (sb_pow hp).le
    have : 0 < 2 ^ p := Nat.pow_pos (by decide)
    omega
  rcases h.1.step hm with ⟨p, hp, hl⟩ | ⟨h0, h1, p, hp, hl⟩
  · have h1 := (hf p hp).2 _ hl
    have h2 := h.2 _ ((hf p hp).1.mono (sb_pow hp).sub)
    refine ⟨p, hp, ?_⟩
    split
    · have := rest (by assumption) p hp
      omega
    · omega
  · have h2 := (hf p hp).2 _ hl
    have h3 := rest h0 p hp
    refine ⟨p, hp, ?_⟩
    rw [if_pos h0]
    omega
structure LotI (bs : List Int) (V m : Nat) (ls : List (List Nat)) : Prop where
  lt : m < 2 ^ bs.length
  pm : (ls.flatten ++ plN m bs.length).Perm (List.range bs.length)
  ne : ∀ l ∈ ls, l ≠ []
  zr : ∀ l ∈ ls.dropLast, rsum bs l = 0
  ct : ∀ v, Most bs m v → ls.length + v = V
/-- lots that are all balances, each 0 together, as many as may be -/
structure LotsR (bs : List Int) (ls : List (List Nat)) : Prop where
  pm : ls.flatten.Perm (List.range bs.length)
  ok : ∀ l ∈ ls, l ≠ [] ∧ rsum bs l = 0
  top : Most bs (2 ^ bs.length - 1) ls.length
theorem LotI.sum {bs : List Int} {V m : Nat} {ls : List (List Nat)} (h : LotI bs V m ls) (h0 : bs.sum = 0) : rsum bs ls.flatten + sv bs m = 0 := by
  rw [← rsum_plN h.lt, ← rsum_app, rsum_perm h.pm, rsum_range, h0]
theorem LotI.all0 {bs : List Int} {V m : Nat} {ls : List (List Nat)} (h : LotI bs V m ls) (h0 : bs.sum = 0) (hm : sv bs m = 0) : ∀ l ∈ ls, rsum bs l = 0 := by
  intro l hl
  have hs := h.sum h0
  have hne : ls ≠ [] := fun e => by subst e; cases hl
  have hz := h.zr
  rw [← List.dropLast_concat_getLast hne] at hl hs
  rw [List.flatten_append, rsum_app, rsum_zero hz] at hs
  rcases List.mem_append.mp hl with q | q
  · exact hz l q
  · rw [List.mem_singleton.mp q]
    rw [List.flatten_cons, List.flatten_nil, List.append_nil] at hs
    omega
theorem row_last {init : List (List Nat)} {l : List Nat} {p : Nat} {K : List (List PyData) → Prop} (hl : l.length < 100000) (h : K (rwD (init ++ [l ++ [p]]))) : rowQ (rwD (init ++ [l])) (.int (-1)) (.int (p : Int)) K := by
  have e1 : rwD (init ++ [l]) = rwD init ++ [natDs l] := by unfold rwD; rw [List.map_append]; rfl
  have e2 : rwD (init ++ [l ++ [p]]) = rwD init ++ [natDs l ++ [.int (p : Int)]] := by
    unfold rwD natDs
    rw [List.map_append, List.map_cons, List.map_append]
    rfl
  rw [e2] at h
  rw [e1]
  unfold rowQ
  dsimp only
  have hx : ixN (rwD init ++ [natDs l]).length (-1) = some (rwD init).length := by
    unfold ixN
    rw [if_neg (by decide), if_pos (by simp; omega)]
    simp
    omega
  rw [hx]
  dsimp only
  rw [List.getElem?_concat_length]
  dsimp only
  refine ⟨by unfold natDs; rw [List.length_map]; exact hl, ?_⟩
  have es : ∀ (a : List (List PyData)) (x y : List PyData), (a ++ [x]).set a.length y = a ++ [y] := fun a x y => by
    induction a with
    | nil => rfl
    | cons b r ih => rw [List.cons_append, List.length_cons, List.set_cons_succ, ih]; rfl
  rw [es]
  exact h
theorem lots_of_q {bs : List Int} (ok : BalOk bs) (K : PyData → Prop) (h : ∀ ls, LotsR bs ls → K (.list ((rwD ls).map .list))) : q_lots_of (.tuple (bs.map .int)) K := by
  have hb := ok.1
  have hpw := pow_le hb
  have hp0 : 0 < 2 ^ bs.length := Nat.pow_pos (by decide)
  unfold q_lots_of
  refine table_of_q hb _ fun vs hv => ?_
  have hvl := hv.1
  walk_at "q"
  rw [zI_len, hvl, show ((2 ^ bs.length : Nat) : Int) - 1 = ((2 ^ bs.length - 1 : Nat) : Int) by omega]
  have full : ∀ p, (2 ^ bs.length - 1).testBit p = decide (p < bs.length) := fun p => Nat.testBit_two_pow_sub_one ..
  refine qWhile_ind (m := 2 ^ bs.length - 1) (fun m t => ∃ ls, t = (.int (m : Int), rwD ls) ∧ LotI bs (vs.getD (2 ^ bs.length - 1) 0) m ls) ⟨[], rfl, by omega, ?_, by simp, by simp, fun v hm => ?_⟩ fun m t nx ht hnx => ?_
  · rw [List.flatten_nil, List.nil_append]
    unfold plN
    rw [List.filter_eq_self.mpr fun p hp => by rw [full, decide_eq_true (List.mem_range.mp hp)]]
  · have := hm.uniq (hv.2 _ (by omega))
    simpa using this
  · obtain ⟨ls, rfl, hi⟩ := ht
    have hlt := hi.lt
    unfold qb_lots_of_1
    dsimp only
    walk_at "j"
    refine bIf_d (fun hm => ?_) fun hm => ?_
    · have hm0 : m ≠ 0 := by omega
      have hM := hv.2 m hlt
      have hlen : ls.flatten.length ≤ 8 := by
        have := hi.pm.length_eq
        rw [List.length_append, List.length_range] at this
        omega
      have hll : ls.length ≤ 8 := by
        have : ∀ {ls : List (List Nat)}, (∀ l ∈ ls, l ≠ []) → ls.length ≤ ls.flatten.length := by
          intro ls
          induction ls with
          | nil => exact fun _ => Nat.le_refl _
          | cons a r ih =>
            intro h
            have h1 := ih fun l hl => h l (List.mem_cons_of_mem _ hl)
            have h2 := List.length_pos_iff.mpr (h a List.mem_cons_self)
            rw [List.flatten_cons, List.length_append, List.length_cons]
            omega
        exact Nat.le_trans (this hi.ne) hlen
      refine is_even_q hb hlt _ ?_
      rw [sums_sv bs m hlt]
      walk_at "j"
      refine jn_by (fun f => ∃ init l, f = rwD (init ++ [l]) ∧ (init ++ [l]).flatten = ls.flatten ∧ (∀ x ∈ init, x ≠ [] ∧ rsum bs x = 0) ∧ init.length + 1 = ls.length + if sv bs m = 0 then 1 else 0) (fun J hJ => ?_) ?_
      · refine bIf_d (fun hz => ?_) fun hz => ?_
        · refine ⟨by unfold rwD; rw [List.length_map]; omega, hJ _ ⟨ls, [], ?_, ?_, fun x hx => ⟨hi.ne x hx, hi.all0 ok.2.1 hz x hx⟩, by rw [if_pos hz]⟩⟩
          · unfold rwD
            rw [List.map_append]
            rfl
          · simp
        · have hs := hi.sum ok.2.1
          have hne : ls ≠ [] := fun e => by
            subst e
            rw [List.flatten_nil] at hs
            have e0 : rsum bs [] = 0 := rfl
            omega
          have e := List.dropLast_concat_getLast hne
          refine hJ _ ⟨ls.dropLast, ls.getLast hne, by rw [e], by rw [e], fun x hx => ⟨hi.ne x (List.dropLast_subset _ hx), hi.zr x hx⟩, ?_⟩
          rw [if_neg hz, List.length_dropLast]
          have := List.length_pos_iff.mpr hne
          omega
      · rintro _ ⟨init, l, rfl, hfl, hin, hct⟩
        refine nat_pick (by omega) ?_
        refine is_even_q hb hlt _ ?_
        rw [sums_sv bs m hlt]
        walk_at "q"
        refine places_q hb _ ?_
        walk_at "q"
        have pl := plN_len (m := m) (n := bs.length)
        have back : ∀ p, m.testBit p = true → m - 2 ^ p < 2 ^ bs.length ∧ m - 2 ^ p < m := fun p hp => by
          have := bit_sub hp
          have : 0 < 2 ^ p := Nat.pow_pos (by decide)
          omega
        obtain ⟨p0, hp0b, hp0v⟩ := most_pick hM hm0 (f := fun p => vs.getD (m - 2 ^ p) 0) fun p hp => hv.2 _ (back p hp).1
        refine qLc_ind (fun j acc _ => acc = natDs (((plN m bs.length).take j).filter fun p => decide (vs.getD (m - 2 ^ p) 0 + (if sv bs m = 0 then 1 else 0) = vs.getD m 0))) rfl (fun j acc s hj hi => ?_) (fun j d acc s sk yd hd hi2 hsk hyd => ?_) fun acc s hi2 => ?_
        · subst hi
          unfold natDs
          rw [List.length_map]
          have := List.length_filter_le (fun p => decide (vs.getD (m - 2 ^ p) 0 + (if sv bs m = 0 then 1 else 0) = vs.getD m 0)) ((plN m bs.length).take j)
          rw [List.length_take] at this
          omega
        · subst hi2
          rw [List.getElem?_map] at hd
          obtain ⟨p, hp, rfl⟩ := Option.map_eq_some_iff.mp hd
          obtain ⟨hpn, hpb⟩ := plN_mem (List.mem_of_getElem? hp)
          unfold qb_lots_of_2
          dsimp only
          walk_at "q"
          refine pow_pick (by omega) ?_
          have hs := bit_sub hpb
          walk_at "q"
          rw [show (m : Int) - ((2 ^ p : Nat) : Int) = ((m - 2 ^ p : Nat) : Int) by omega]
          refine nat_pick (by rw [hvl]; exact (back p hpb).1) ?_
          walk_at "q"
          refine bIf_d (fun e => ?_) fun e => ?_
          · refine hyd _ _ ?_
            rw [List.take_add_one, hp, Option.toList_some, List.filter_append]
            unfold natDs
            rw [List.map_append]
            congr 1
            rw [List.filter_cons, if_pos]
            · rfl
            · rw [decide_eq_true_eq]
              by_cases z : sv bs m = 0 <;> simp [z] at e ⊢ <;> omega
          · refine hsk _ ?_
            rw [List.take_add_one, hp, Option.toList_some, List.filter_append, List.filter_cons_of_neg, List.filter_nil, List.append_nil]
            rw [decide_eq_true_eq]
            by_cases z : sv bs m = 0 <;> simp [z] at e ⊢ <;> omega
        · unfold natDs at hi2
          rw [List.length_map, List.take_length] at hi2
          subst hi2
          have hmem : p0 ∈ (plN m bs.length).filter fun p => decide (vs.getD (m - 2 ^ p) 0 + (if sv bs m = 0 then 1 else 0) = vs.getD m 0) := List.mem_filter.mpr ⟨plN_of (bit_lt hlt hp0b) hp0b, decide_eq_true hp0v⟩
          refine pick_mem (Int.le_refl _) (by rw [List.length_map]; have := List.length_pos_of_mem hmem; omega) fun d hd => ?_
          obtain ⟨p, hpf, rfl⟩ := List.mem_map.mp hd
          obtain ⟨hpl, hpv⟩ := List.mem_filter.mp hpf
          obtain ⟨hpn, hpb⟩ := plN_mem hpl
          have hpv := of_decide_eq_true hpv
          have hbk := back p hpb
          have hll2 : l.length ≤ 8 := by
            rw [← hfl, List.flatten_append, List.length_append] at hlen
            simp at hlen
            omega
          refine row_last (by omega) ?_
          walk_at "q"
          refine pow_pick (by omega) ?_
          have hs := bit_sub hpb
          walk_at "q"
          rw [show (m : Int) - ((2 ^ p : Nat) : Int) = ((m - 2 ^ p : Nat) : Int) by omega]
          refine hnx _ _ hbk.2 ⟨_, rfl, hbk.1, ?_, fun x hx => ?_, fun x hx => ?_, fun v hmv => ?_⟩
          · refine List.Perm.trans ?_ hi.pm
            rw [← hfl]
            simp only [List.flatten_append, List.flatten_cons, List.flatten_nil, List.append_nil, List.append_assoc]
            refine List.Perm.append_left _ (List.Perm.append_left _ ?_)
            exact (plN_take hpn hpb).symm
          · rcases List.mem_append.mp hx with q | q
            · exact (hin x q).1
            · rw [List.mem_singleton.mp q]
              simp
          · rw [List.dropLast_concat] at hx
            exact (hin x hx).2
          · have e1 := hi.ct _ hM
            have e2 := hmv.uniq (hv.2 _ hbk.1)
            rw [List.length_append, List.length_singleton]
            omega
    · obtain rfl : m = 0 := by omega
      have e0 : plN 0 bs.length = [] := by
        unfold plN
        rw [List.filter_eq_nil_iff]
        intro p _
        simp
      have hpm := hi.pm
      rw [e0, List.append_nil] at hpm
      refine h ls ⟨hpm, fun l hl => ⟨hi.ne l hl, hi.all0 ok.2.1 (sv_zero bs) l hl⟩, ?_⟩
      have := hi.ct 0 most_zero
      rw [Nat.add_zero] at this
      rw [this]
      exact hv.2 _ (by omega)
def lfD (q : List (Nat × Int)) : KVM := q.map fun e => (.int (e.1 : Int), .int e.2)
def lfK (q : List (Nat × Int)) : List PyData := q.map fun e => .int (e.1 : Int)
def lfP (q : List (Nat × Int)) : List PyData := q.map fun e => .tuple [.int (e.1 : Int), .int e.2]
theorem lf_map : ∀ q : List (Nat × Int), isMap (lfD q) = true
  | [] => rfl
  | _ :: _ => rfl
theorem lf_find : ∀ {q : List (Nat × Int)} {p : Nat} {v : Int}, (q.map (·.1)).Nodup → (p, v) ∈ q → atM (lfD q) (Sum.inl (p : Int)) = some (.int v)
  | e :: q, p, v, nd, hm => by
    rw [List.map_cons, List.nodup_cons] at nd
    unfold atM lfD
    rw [List.map_cons, List.find?_cons]
    dsimp only
    rw [isKy_int]
    rcases List.mem_cons.mp hm with h | h
    · subst h
      rw [decide_eq_true rfl]
      rfl
    · rw [decide_eq_false fun z => nd.1 (by rw [show e.1 = p by omega]; exact List.mem_map.mpr ⟨_, h, rfl⟩)]
      exact lf_find nd.2 h
theorem lf_ix {q : List (Nat × Int)} {p : Nat} {v : Int} {P : PyData → Prop} (nd : (q.map (·.1)).Nodup) (hm : (p, v) ∈ q) (h : P (.int v)) : oIxM (.dict (lfD q)) (.int (p : Int)) P := by
  refine ⟨lf_map q, ?_⟩
  show pickM (lfD q) (Sum.inl (p : Int)) P
  unfold pickM
  rw [lf_find nd hm]
  exact h
def lfS (p : Nat) (v : Int) (q : List (Nat × Int)) : List (Nat × Int) := q.map fun e => if e.1 = p then (e.1, v) else e
theorem lf_any {q : List (Nat × Int)} {p : Nat} {v : Int} (hm : (p, v) ∈ q) : ((lfD q).any fun x => isKy x.1 (Sum.inl (p : Int))) = true := by
  rw [List.any_eq_true]
  exact ⟨_, List.mem_map.mpr ⟨_, hm, rfl⟩, by dsimp only; rw [isKy_int]; exact decide_eq_true rfl⟩
theorem lf_put {q : List (Nat × Int)} {p : Nat} {v w : Int} {K : KVM → Prop} (hl : q.length < 100000) (hm : (p, w) ∈ q) (h : K (lfD (lfS p v q))) : putMQ (lfD q) (.int (p : Int)) (.int v) K := by
  show (lfD q).length < 100000 ∧ K (putM (lfD q) (Sum.inl (p : Int)) (.int v))
  refine ⟨by unfold lfD; rw [List.length_map]; exact hl, ?_⟩
  unfold putM
  rw [if_pos (lf_any hm)]
  have : (lfD q).map (fun x => if isKy x.1 (Sum.inl (p : Int)) = true then (x.1, PyData.int v) else x) = lfD (lfS p v q) := by
    unfold lfD lfS
    rw [List.map_map, List.map_map]
    refine List.map_congr_left fun e _ => ?_
    simp only [Function.comp]
    rw [isKy_int]
    by_cases z : e.1 = p
    · rw [if_pos z, if_pos (decide_eq_true (by omega))]
    · rw [if_neg z, if_neg]
      rw [decide_eq_true_eq]
      omega
  rw [this]
  exact h
theorem lf_prs : ∀ q : List (Nat × Int), prsOf (lfP q) = some (q.map fun e => (Sum.inl (e.1 : Int), PyData.int e.2))
  | [] => rfl
  | e :: q => by
    show (match prOf (.tuple [.int (e.1 : Int), .int e.2]), prsOf (lfP q) with
      | some p, some ps => some (p :: ps)
      | _, _ => none) = _
    rw [lf_prs q]
    rfl
theorem lf_merge : ∀ (q a : List (Nat × Int)), ((a ++ q).map (·.1)).Nodup → mergeM (lfD a) (q.map fun e => (Sum.inl (e.1 : Int), PyData.int e.2)) = lfD (a ++ q)
  | [], a, _ => by rw [List.append_nil]; rfl
  | e :: q, a, nd => by
    show mergeM (putM (lfD a) (Sum.inl (e.1 : Int)) (.int e.2)) _ = _
    have e1 : putM (lfD a) (Sum.inl (e.1 : Int)) (.int e.2) = lfD (a ++ [e]) := by
      unfold putM
      rw [if_neg]
      · unfold lfD
        rw [List.map_append]
        rfl
      · rw [List.any_eq_true]
        rintro ⟨x, hx, hk⟩
        obtain ⟨y, hy, rfl⟩ := List.mem_map.mp hx
        dsimp only at hk
        rw [isKy_int, decide_eq_true_eq] at hk
        rw [List.map_append, List.nodup_append] at nd
        exact nd.2.2 _ (List.mem_map.mpr ⟨y, hy, rfl⟩) _ (List.mem_map.mpr ⟨e, List.mem_cons_self, rfl⟩) (by omega)
    rw [e1, lf_merge q (a ++ [e]) (by rw [List.append_assoc]; exact nd), List.append_assoc]
    rfl
theorem lf_dict {q : List (Nat × Int)} {P : KVM → Prop} (nd : (q.map (·.1)).Nodup) (h : P (lfD q)) : dictQ (.list (lfP q)) P := by
  show (match prsOf (lfP q) with | some ps => P (mergeM [] ps) | none => False)
  rw [lf_prs]
  dsimp only
  have := lf_merge q [] (by rw [List.nil_append]; exact nd)
  rw [List.nil_append] at this
  rw [show ([] : KVM) = lfD [] from rfl, this]
  exact h
theorem lf_emp {q : List (Nat × Int)} {P : PyData → Prop} (h : P (.bool (!q.isEmpty))) : oEmpD true (.dict (lfD q)) (.dict []) P := by
  refine ⟨lf_map q, ?_⟩
  have : (lfD q).isEmpty = q.isEmpty := by cases q <;> rfl
  rw [this]
  cases hq : q.isEmpty <;> rw [hq] at h <;> exact h
theorem lf_items {q : List (Nat × Int)} {K : List PyData → Prop} (h : K (lfK q)) : itemsM (.dict (lfD q)) K := by
  refine ⟨lf_map q, ?_⟩
  have : (lfD q).map (·.1) = lfK q := by
    unfold lfD lfK
    rw [List.map_map]
    rfl
  rw [this]
  exact ⟨h⟩
theorem q_minLZ {ns : List Int} {P : PyData → Prop} : nMinL [.list (ns.map .int)] P = (0 < ns.length ∧ ∀ m, m ∈ ns → (∀ a ∈ ns, m ≤ a) → P (.int m)) := by
  show minQ (intsD (ns.map .int)) P = _
  rw [DL.ints_map]
  rfl
/-- a part of the places by what is left -/
theorem lf_part {I : Type} {b : PyData → I → Unit → (I → Unit → Prop) → (PyData → I → Unit → Prop) → Prop} {i : I} {q : List (Nat × Int)} {K : List PyData → Unit → Prop} (c : Nat × Int → Bool) (y : Nat × Int → PyData) (hl : q.length ≤ 100000)
    (step : ∀ e ∈ q, ∀ (sk : I → Unit → Prop) (yd : PyData → I → Unit → Prop), (c e = true → yd (y e) i ()) → (c e = false → sk i ()) → b (.int (e.1 : Int)) i () sk yd) (fin : K ((q.filter c).map y) ()) : qLc b i (lfK q) [] () K := by
  refine qLc_ind (fun k acc _ => acc = ((q.take k).filter c).map y) rfl (fun k acc s hk hi => ?_) (fun k d acc s sk yd hd hi hsk hyd => ?_) fun acc s hi => ?_
  · subst hi
    unfold lfK at hk
    rw [List.length_map] at hk ⊢
    have := List.length_filter_le c (q.take k)
    rw [List.length_take] at this
    omega
  · subst hi
    unfold lfK at hd
    rw [List.getElem?_map] at hd
    obtain ⟨e, he, rfl⟩ := Option.map_eq_some_iff.mp hd
    refine step e (List.mem_of_getElem? he) sk yd (fun hc => hyd _ _ ?_) fun hc => hsk _ ?_
    · rw [List.take_add_one, he, Option.toList_some, List.filter_append, List.map_append, List.filter_cons_of_pos hc]
      rfl
    · rw [List.take_add_one, he, Option.toList_some, List.filter_append, List.filter_cons_of_neg (by rw [hc]; decide)]
      simp
  · unfold lfK at hi
    rw [List.length_map, List.take_length] at hi
    subst hi
    exact fin
abbrev Pay := Nat × Nat × Int
def payD (t : Pay) : PyData := .tuple [.int (t.1 : Int), .int (t.2.1 : Int), .int t.2.2]
def eff (ps : List Pay) (p : Nat) : Int := (ps.map fun t => (if t.1 = p then t.2.2 else 0) - (if t.2.1 = p then t.2.2 else 0)).sum
def qv (q : List (Nat × Int)) (p : Nat) : Int := (q.map fun e => if e.1 = p then e.2 else 0).sum
/-- no part of it is 0 together -/
def Tight (bs : List Int) (l : List Nat) : Prop := ∀ a b : List Nat, (a ++ b).Perm l → a ≠ [] → rsum bs a = 0 → b = []
theorem LotsR.tight {bs : List Int} {ls : List (List Nat)} (h : LotsR bs ls) {l : List Nat} (hl : l ∈ ls) : Tight bs l := by
  intro a b pm ha h0
  apply Classical.byContradiction
  intro hb
  obtain ⟨pre, post, rfl⟩ := List.append_of_mem hl
  have hl0 := (h.ok l hl).2
  have hb0 : rsum bs b = 0 := by
    have := rsum_perm (bs := bs) pm
    rw [rsum_app] at this
    omega
  have fl : (a :: b :: (pre ++ post)).flatten.Perm (pre ++ l :: post).flatten := by
    refine List.Perm.trans ?_ (List.Perm.flatten (List.perm_middle (a := l)).symm)
    rw [List.flatten_cons, List.flatten_cons, List.flatten_cons, ← List.append_assoc]
    exact pm.append_right _
  have fr := fl.trans h.pm
  have := h.top.2 _ (lots_lists (ls := a :: b :: (pre ++ post)) (m := 2 ^ bs.length - 1) (fr.nodup_iff.mpr List.nodup_range) (fun p hp => ?_) fun x hx => ?_)
  · simp only [List.length_cons, List.length_append] at this
    omega
  · have := fr.mem_iff.mp hp
    rw [Nat.testBit_two_pow_sub_one]
    exact decide_eq_true (List.mem_range.mp this)
  · rcases List.mem_cons.mp hx with rfl | hx
    · exact ⟨ha, h0⟩
    · rcases List.mem_cons.mp hx with rfl | hx
      · exact ⟨hb, hb0⟩
      · refine h.ok x ?_
        rcases List.mem_append.mp hx with z | z
        · exact List.mem_append_left _ z
        · exact List.mem_append_right _ (List.mem_cons_of_mem _ z)
structure PayI (bs : List Int) (l : List Nat) (q : List (Nat × Int)) (ps : List Pay) : Prop where
  ks : ∃ R, (q.map (·.1) ++ R).Perm l
  nz : ∀ e ∈ q, e.2 ≠ 0
  s0 : (q.map (·.2)).sum = 0
  un : ∃ x, (∀ e ∈ q, e.1 ≠ x → e.2 = bs.getD e.1 0) ∧ ∀ e ∈ q, e.1 = x → ∀ f ∈ q, (e.2 < 0 ↔ f.2 < 0) → x ≤ f.1
  ct : (q ≠ [] → ps.length + q.length = l.length) ∧ (q = [] → ps.length + 1 = l.length)
  py : ∀ t ∈ ps, t.1 ∈ l ∧ t.2.1 ∈ l ∧ t.1 ≠ t.2.1 ∧ 0 < t.2.2
  ef : ∀ p, qv q p = (if p ∈ l then bs.getD p 0 else 0) + eff ps p
theorem PayI.perm {bs : List Int} {l : List Nat} {q r : List (Nat × Int)} {ps : List Pay} (h : PayI bs l q ps) (p : r.Perm q) : PayI bs l r ps := by
  obtain ⟨⟨R, h1⟩, h2, h3, ⟨x, h4, h5⟩, h6, h7, h8⟩ := h
  refine ⟨⟨R, ((p.map _).append_right R).trans h1⟩, fun e he => h2 e (p.mem_iff.mp he), by rw [perm_sum (p.map _), h3], ⟨x, fun e he => h4 e (p.mem_iff.mp he), fun e he hx f hf => h5 e (p.mem_iff.mp he) hx f (p.mem_iff.mp hf)⟩, ⟨fun hr => ?_, fun hr => ?_⟩, h7, fun y => ?_⟩
  · rw [p.length_eq]
    exact h6.1 fun z => hr (by subst z; exact p.eq_nil)
  · subst hr
    exact h6.2 p.symm.eq_nil
  · rw [← h8 y]
    exact perm_sum (p.map _)
theorem qv_cons {e : Nat × Int} {q : List (Nat × Int)} {p : Nat} : qv (e :: q) p = (if e.1 = p then e.2 else 0) + qv q p := rfl
theorem eff_snoc {ps : List Pay} {t : Pay} {p : Nat} : eff (ps ++ [t]) p = eff ps p + ((if t.1 = p then t.2.2 else 0) - (if t.2.1 = p then t.2.2 else 0)) := by
  unfold eff
  rw [List.map_append, List.sum_append]
  simp
/-- a payment: who owes the most ahead, who is owed -/
theorem PayI.step {bs : List Int} {l : List Nat} {rest : List (Nat × Int)} {ps : List Pay} {P T : Nat} {vp vt : Int} (nd : l.Nodup) (ti : Tight bs l) (h : PayI bs l ((P, vp) :: (T, vt) :: rest) ps) (np : vp < 0) (pt : 0 < vt)
    (mp : ∀ e ∈ rest, e.2 < 0 → P ≤ e.1) (mt : ∀ e ∈ rest, 0 < e.2 → T ≤ e.1) :
    (vt < -vp → PayI bs l ((P, vp + vt) :: rest) (ps ++ [(P, T, vt)])) ∧ (-vp < vt → PayI bs l ((T, vt + vp) :: rest) (ps ++ [(P, T, -vp)])) ∧ (vt = -vp → PayI bs l rest (ps ++ [(P, T, vt)])) := by
  obtain ⟨⟨R, h1⟩, h2, h3, ⟨x, h4, h5⟩, h6, h7, h8⟩ := h
  have nd1 := h1.nodup_iff.mpr nd
  simp only [List.map_cons, List.cons_append] at h1 nd1
  have nd2 := List.nodup_cons.mp nd1
  have nd3 := List.nodup_cons.mp nd2.2
  have hPT : P ≠ T := fun z => nd2.1 (by rw [z]; exact List.mem_cons_self)
  have hPr : ∀ e ∈ rest, e.1 ≠ P := fun e he z => nd2.1 (List.mem_cons_of_mem _ (List.mem_append_left _ (List.mem_map.mpr ⟨e, he, z⟩)))
  have hTr : ∀ e ∈ rest, e.1 ≠ T := fun e he z => nd3.1 (List.mem_append_left _ (List.mem_map.mpr ⟨e, he, z⟩))
  have hr : ∀ e ∈ rest, e.2 = bs.getD e.1 0 := fun e he => h4 e (List.mem_cons_of_mem _ (List.mem_cons_of_mem _ he)) fun z => by
    have he2 : e ∈ (P, vp) :: (T, vt) :: rest := List.mem_cons_of_mem _ (List.mem_cons_of_mem _ he)
    have n0 := h2 e he2
    by_cases s : e.2 < 0
    · have := h5 e he2 z (P, vp) List.mem_cons_self ⟨fun _ => np, fun _ => s⟩
      have := mp e he s
      have := hPr e he
      simp only at *
      omega
    · have := h5 e he2 z (T, vt) (List.mem_cons_of_mem _ List.mem_cons_self) ⟨fun k => absurd k s, fun k => by simp only at k; omega⟩
      have := mt e he (by omega)
      have := hTr e he
      simp only at *
      omega
  have hP : P ∈ l := h1.mem_iff.mp List.mem_cons_self
  have hT : T ∈ l := h1.mem_iff.mp (List.mem_cons_of_mem _ List.mem_cons_self)
  have hz : ∀ e ∈ rest, e.2 ≠ 0 := fun e he => h2 e (List.mem_cons_of_mem _ (List.mem_cons_of_mem _ he))
  simp only [List.map_cons, List.sum_cons] at h3
  have hct := h6.1 (by simp)
  simp only [List.length_cons] at hct
  have hpy : ∀ d : Int, 0 < d → ∀ t ∈ ps ++ [(P, T, d)], t.1 ∈ l ∧ t.2.1 ∈ l ∧ t.1 ≠ t.2.1 ∧ 0 < t.2.2 := fun d hd t ht => by
    rcases List.mem_append.mp ht with q | q
    · exact h7 t q
    · rw [List.mem_singleton.mp q]
      exact ⟨hP, hT, hPT, hd⟩
  have hef : ∀ p, (if P = p then vp else 0) + ((if T = p then vt else 0) + qv rest p) = (if p ∈ l then bs.getD p 0 else 0) + eff ps p := h8
  refine ⟨fun hd => ⟨⟨T :: R, ?_⟩, ?_, ?_, ⟨P, fun e he hne => ?_, fun e he hx f hf hs => ?_⟩, ⟨fun _ => ?_, fun z => by cases z⟩, hpy vt pt, fun p => ?_⟩, fun hd => ⟨⟨P :: R, ?_⟩, ?_, ?_, ⟨T, fun e he hne => ?_, fun e he hx f hf hs => ?_⟩, ⟨fun _ => ?_, fun z => by cases z⟩, hpy (-vp) (by omega), fun p => ?_⟩, fun hd => ⟨⟨P :: T :: R, ?_⟩, hz, ?_, ⟨P, fun e he _ => hr e he, fun e he hx => absurd hx (hPr e he)⟩, ⟨fun hne => ?_, fun z => ?_⟩, hpy vt pt, fun p => ?_⟩⟩
  · refine List.Perm.trans ?_ h1
    exact List.Perm.cons P List.perm_middle
  · intro e he
    rcases List.mem_cons.mp he with rfl | he
    · show vp + vt ≠ 0
      omega
    · exact hz e he
  · rw [List.map_cons, List.sum_cons]
    show vp + vt + _ = 0
    omega
  · rcases List.mem_cons.mp he with rfl | he
    · exact absurd rfl hne
    · exact hr e he
  · rcases List.mem_cons.mp he with rfl | he
    · rcases List.mem_cons.mp hf with rfl | hf
      · exact Nat.le_refl _
      · exact mp f hf (hs.mp (by show vp + vt < 0; omega))
    · exact absurd hx (hPr e he)
  · rw [List.length_append, List.length_singleton, List.length_cons]
    omega
  · rw [eff_snoc, qv_cons]
    have := hef p
    dsimp only at this ⊢
    revert this
    split <;> split <;> omega
  · refine List.Perm.trans ?_ h1
    exact (List.Perm.cons T List.perm_middle).trans (List.Perm.swap P T _)
  · intro e he
    rcases List.mem_cons.mp he with rfl | he
    · show vt + vp ≠ 0
      omega
    · exact hz e he
  · rw [List.map_cons, List.sum_cons]
    show vt + vp + _ = 0
    omega
  · rcases List.mem_cons.mp he with rfl | he
    · exact absurd rfl hne
    · exact hr e he
  · rcases List.mem_cons.mp he with rfl | he
    · rcases List.mem_cons.mp hf with rfl | hf
      · exact Nat.le_refl _
      · refine mt f hf ?_
        have h0 := hz f hf
        have h1 : ¬ f.2 < 0 := fun z => by
          have := hs.mpr z
          simp only at this
          omega
        omega
    · exact absurd hx (hTr e he)
  · rw [List.length_append, List.length_singleton, List.length_cons]
    omega
  · rw [eff_snoc, qv_cons]
    have := hef p
    dsimp only at this ⊢
    revert this
    split <;> split <;> omega
  · refine List.Perm.trans ?_ h1
    exact (List.perm_middle.trans (List.Perm.cons P List.perm_middle))
  · omega
  · exfalso
    have := ti (rest.map (·.1)) (P :: T :: R) ((List.perm_middle.trans (List.Perm.cons P List.perm_middle)).trans h1) (by simpa using hne) (by
      unfold rsum
      rw [List.map_map]
      have e : rest.map ((fun p => bs.getD p 0) ∘ fun x => x.1) = rest.map (·.2) := List.map_congr_left fun e he => (hr e he).symm
      rw [e]
      omega)
    cases this
  · subst z
    rw [List.length_append, List.length_singleton]
    simp only [List.length_nil] at hct
    omega
  · rw [eff_snoc]
    have := hef p
    dsimp only at this ⊢
    revert this
    split <;> split <;> omega
theorem map_perm {α β : Type} {f : α → β} : ∀ {l : List β} {m : List α}, l.Perm (m.map f) → ∃ k : List α, l = k.map f ∧ k.Perm m := by
  intro l m h
  obtain ⟨xs, hx⟩ : ∃ xs, xs = m.map f := ⟨_, rfl⟩
  rw [← hx] at h
  induction h generalizing m with
  | nil => exact ⟨m, hx, List.Perm.refl _⟩
  | cons x _ ih =>
    cases m with
    | nil => simp at hx
    | cons y m =>
      rw [List.map_cons] at hx
      injection hx with e1 e2
      obtain ⟨k, rfl, p⟩ := ih e2
      exact ⟨y :: k, by rw [e1]; rfl, p.cons y⟩
  | swap x y l =>
    match m, hx with
    | a :: b :: m, hx =>
      rw [List.map_cons, List.map_cons] at hx
      injection hx with e1 e2
      injection e2 with e2 e3
      exact ⟨b :: a :: m, by rw [e1, e2, e3]; rfl, List.Perm.swap ..⟩
  | trans _ _ ih1 ih2 =>
    obtain ⟨k2, e2, p2⟩ := ih2 hx
    obtain ⟨k1, e1, p1⟩ := ih1 e2
    exact ⟨k1, e1, p1.trans p2⟩
theorem sort_nats (l : List Nat) : sortOk (natDs l) := by
  unfold natDs
  refine ⟨PySem.W.AllAlike.of fun a b => by simp [PySem.W.alike], .inr fun d hd => ?_, fun d hd => ?_, ?_⟩
  · obtain ⟨p, _, rfl⟩ := List.mem_map.mp hd
    exact ⟨nofun, fun _ => nofun⟩
  · obtain ⟨p, _, rfl⟩ := List.mem_map.mp hd
    simp [PyData.depth]
  · induction l with
    | nil => rfl
    | cons a l ih => rw [List.map_cons, PyData.hasDictAll, ih]; rfl
theorem lfS_skip {p : Nat} {v : Int} {q : List (Nat × Int)} (h : ∀ e ∈ q, e.1 ≠ p) : lfS p v q = q := by
  induction q with
  | nil => rfl
  | cons e q ih =>
    have h1 := ih fun x hx => h x (List.mem_cons_of_mem _ hx)
    unfold lfS at h1 ⊢
    rw [List.map_cons, if_neg (h e List.mem_cons_self), h1]
theorem turn_perm {q rest : List (Nat × Int)} {P T : Nat} {vp vt d : Int} (hq : q.Perm ((P, vp) :: (T, vt) :: rest)) (hPT : P ≠ T) (hPr : ∀ e ∈ rest, e.1 ≠ P) (hTr : ∀ e ∈ rest, e.1 ≠ T) (hz : ∀ e ∈ rest, e.2 ≠ 0) :
    ((lfS T (vt - d) (lfS P (vp + d) q)).filter fun e => decide (e.2 ≠ 0)).Perm ((if vp + d = 0 then [] else [(P, vp + d)]) ++ ((if vt - d = 0 then [] else [(T, vt - d)]) ++ rest)) := by
  have e1 : (lfS T (vt - d) (lfS P (vp + d) q)).Perm ((P, vp + d) :: (T, vt - d) :: rest) := by
    have a : (lfS P (vp + d) q).Perm (lfS P (vp + d) ((P, vp) :: (T, vt) :: rest)) := hq.map _
    have b : lfS P (vp + d) ((P, vp) :: (T, vt) :: rest) = (P, vp + d) :: (T, vt) :: lfS P (vp + d) rest := by
      unfold lfS
      rw [List.map_cons, List.map_cons, if_pos rfl, if_neg (fun z => hPT z.symm)]
    rw [b, lfS_skip hPr] at a
    have c : lfS T (vt - d) ((P, vp + d) :: (T, vt) :: rest) = (P, vp + d) :: (T, vt - d) :: lfS T (vt - d) rest := by
      unfold lfS
      rw [List.map_cons, List.map_cons, if_neg hPT, if_pos rfl]
    have a2 : (lfS T (vt - d) (lfS P (vp + d) q)).Perm (lfS T (vt - d) ((P, vp + d) :: (T, vt) :: rest)) := a.map _
    rwa [c, lfS_skip hTr] at a2
  refine (e1.filter _).trans (List.Perm.of_eq ?_)
  have er : rest.filter (fun e => decide (e.2 ≠ 0)) = rest := List.filter_eq_self.mpr fun e he => decide_eq_true (hz e he)
  rw [List.filter_cons, List.filter_cons, er]
  by_cases z1 : vp + d = 0 <;> by_cases z2 : vt - d = 0 <;> simp [z1, z2]
theorem pos_sum : ∀ {q : List (Nat × Int)}, (∀ e ∈ q, 0 < e.2) → 0 ≤ (q.map (·.2)).sum ∧ (q ≠ [] → 0 < (q.map (·.2)).sum)
  | [], _ => ⟨Int.le_refl _, fun h => absurd rfl h⟩
  | e :: q, h => by
    have h1 := (pos_sum fun x hx => h x (List.mem_cons_of_mem e hx)).1
    have h2 := h e List.mem_cons_self
    rw [List.map_cons, List.sum_cons]
    exact ⟨by omega, fun _ => by omega⟩
theorem neg_sum : ∀ {q : List (Nat × Int)}, (∀ e ∈ q, e.2 < 0) → (q.map (·.2)).sum ≤ 0 ∧ (q ≠ [] → (q.map (·.2)).sum < 0)
  | [], _ => ⟨Int.le_refl _, fun h => absurd rfl h⟩
  | e :: q, h => by
    have h1 := (neg_sum fun x hx => h x (List.mem_cons_of_mem e hx)).1
    have h2 := h e List.mem_cons_self
    rw [List.map_cons, List.sum_cons]
    exact ⟨by omega, fun _ => by omega⟩
theorem some_neg {q : List (Nat × Int)} (hne : q ≠ []) (hz : ∀ e ∈ q, e.2 ≠ 0) (h0 : (q.map (·.2)).sum = 0) : 0 < (q.filter fun e => decide (e.2 < 0)).length := by
  apply Classical.byContradiction
  intro z
  have z := List.filter_eq_nil_iff.mp (List.length_eq_zero_iff.mp (Nat.eq_zero_of_not_pos z))
  have := (pos_sum (q := q) fun e he => by
    have a := z e he
    have b := hz e he
    rw [decide_eq_true_eq] at a
    omega).2 hne
  omega
theorem some_pos {q : List (Nat × Int)} (hne : q ≠ []) (hz : ∀ e ∈ q, e.2 ≠ 0) (h0 : (q.map (·.2)).sum = 0) : 0 < (q.filter fun e => decide (0 < e.2)).length := by
  apply Classical.byContradiction
  intro z
  have z := List.filter_eq_nil_iff.mp (List.length_eq_zero_iff.mp (Nat.eq_zero_of_not_pos z))
  have := (neg_sum (q := q) fun e he => by
    have a := z e he
    have b := hz e he
    rw [decide_eq_true_eq] at a
    omega).2 hne
  omega
theorem map_keys {q : List (Nat × Int)} : q.map (fun e => PyData.int (e.1 : Int)) = (q.map fun e => (e.1 : Int)).map .int := by
  rw [List.map_map]
  rfl
theorem qv_init {bs : List Int} {x : Nat} : ∀ {l : List Nat}, l.Nodup → qv (l.map fun p => (p, bs.getD p 0)) x = if x ∈ l then bs.getD x 0 else 0
  | [], _ => rfl
  | p :: l, nd => by
    have nd := List.nodup_cons.mp nd
    rw [List.map_cons, qv_cons, qv_init nd.2]
    dsimp only
    by_cases e : p = x
    · subst e
      rw [if_pos rfl, if_neg nd.1, if_pos List.mem_cons_self]
      omega
    · rw [if_neg e]
      by_cases m : x ∈ l
      · rw [if_pos m, if_pos (List.mem_cons_of_mem _ m)]
        omega
      · rw [if_neg m, if_neg (fun z => by rcases List.mem_cons.mp z with z | z; exact e z.symm; exact m z)]
        rfl
theorem paid_init {bs : List Int} {l m : List Nat} (nd : l.Nodup) (ne : l ≠ []) (h0 : rsum bs l = 0) (ti : Tight bs l) (pm : m.Perm l) : PayI bs l ((m.map fun p => (p, bs.getD p 0)).filter fun e => decide (e.2 ≠ 0)) [] := by
  have nm := pm.nodup_iff.mpr nd
  by_cases hz : ∀ p ∈ l, bs.getD p 0 ≠ 0
  · have e : ((m.map fun p => (p, bs.getD p 0)).filter fun e => decide (e.2 ≠ 0)) = m.map fun p => (p, bs.getD p 0) := List.filter_eq_self.mpr fun e he => by
      obtain ⟨p, hp, rfl⟩ := List.mem_map.mp he
      exact decide_eq_true (hz p (pm.mem_iff.mp hp))
    rw [e]
    have ek : (m.map fun p => (p, bs.getD p 0)).map (·.1) = m := by rw [List.map_map]; exact List.map_id' m
    refine ⟨⟨[], by rw [ek, List.append_nil]; exact pm⟩, fun e he => ?_, ?_, ⟨0, fun e he _ => ?_, fun e he hx f hf _ => hx ▸ (by omega)⟩, ⟨fun _ => ?_, fun z => ?_⟩, by simp, fun x => ?_⟩
    · obtain ⟨p, hp, rfl⟩ := List.mem_map.mp he
      exact hz p (pm.mem_iff.mp hp)
    · have e1 : ((m.map fun p => (p, bs.getD p 0)).map (·.2)).sum = rsum bs m := by rw [List.map_map]; rfl
      rw [e1, rsum_perm pm, h0]
    · obtain ⟨p, hp, rfl⟩ := List.mem_map.mp he
      rfl
    · rw [List.length_map, pm.length_eq]
      simp
    · exact absurd (List.map_eq_nil_iff.mp z) fun z => ne (by subst z; exact pm.symm.eq_nil)
    · rw [qv_init nm]
      show _ = _ + 0
      rw [Int.add_zero]
      by_cases k : x ∈ l
      · rw [if_pos k, if_pos (pm.mem_iff.mpr k)]
      · rw [if_neg k, if_neg fun z => k (pm.mem_iff.mp z)]
  · obtain ⟨p, hp, hp0⟩ : ∃ p, p ∈ l ∧ bs.getD p 0 = 0 := by
      apply Classical.byContradiction
      intro z
      exact hz fun p hp hp0 => z ⟨p, hp, hp0⟩
    have e0 := ti [p] (l.erase p) (List.perm_cons_erase hp).symm (by simp) (by unfold rsum; simpa using hp0)
    have el : l = [p] := by
      have := List.perm_cons_erase hp
      rw [e0] at this
      exact List.perm_singleton.mp this
    subst el
    have em := List.perm_singleton.mp pm
    subst em
    have e : (([p].map fun p => (p, bs.getD p 0)).filter fun e => decide (e.2 ≠ 0)) = [] := by
      rw [List.map_cons, List.map_nil, List.filter_cons_of_neg (by dsimp only; rw [hp0]; simp)]
      rfl
    rw [e]
    refine ⟨⟨[p], List.Perm.refl _⟩, by simp, rfl, ⟨0, by simp, by simp⟩, ⟨fun z => absurd rfl z, fun _ => rfl⟩, by simp, fun x => ?_⟩
    show (0 : Int) = _ + 0
    by_cases k : x ∈ [p]
    · rw [if_pos k, List.mem_singleton.mp k, hp0]
      rfl
    · rw [if_neg k]
      rfl
theorem paid_within_q {bs : List Int} {l : List Nat} (nd : l.Nodup) (ne : l ≠ []) (hl : ∀ p ∈ l, p < bs.length) (hll : l.length ≤ 8) (h0 : rsum bs l = 0) (ti : Tight bs l) (K : List PyData → Prop)
    (h : ∀ ps : List Pay, ps.length + 1 = l.length → (∀ t ∈ ps, t.1 ∈ l ∧ t.2.1 ∈ l ∧ t.1 ≠ t.2.1 ∧ 0 < t.2.2) → (∀ p, (if p ∈ l then bs.getD p 0 else 0) + eff ps p = 0) → K (ps.map payD)) : q_paid_within (.tuple (bs.map .int)) (.list (natDs l)) K := by
  unfold q_paid_within
  rw [q_sorted]
  refine ⟨sort_nats l, ?_⟩
  obtain ⟨m, em, pm⟩ := map_perm (sortD_perm (natDs l))
  rw [show sortD (natDs l) = natDs m from em]
  show itemsQ (.list (natDs m)) _
  rw [q_items]
  have hml := pm.length_eq
  have nm := pm.nodup_iff.mpr nd
  have ek : (m.map fun p => (p, bs.getD p 0)).map (·.1) = m := by rw [List.map_map]; exact List.map_id' m
  rw [show natDs m = lfK (m.map fun p => (p, bs.getD p 0)) from by unfold natDs lfK; rw [List.map_map]; rfl]
  refine lf_part (fun e => decide (e.2 ≠ 0)) (fun e => .tuple [.int (e.1 : Int), .int e.2]) (by rw [List.length_map]; omega) (fun e he sk yd hy hs => ?_) ?_
  · obtain ⟨p, hp, rfl⟩ := List.mem_map.mp he
    have hpb := hl p (pm.mem_iff.mp hp)
    unfold qb_paid_within_1
    show oIx (.tuple (bs.map .int)) (.int (p : Int)) _
    walk_at "q"
    refine int_pick hpb ?_
    walk_at "q"
    dsimp only at hy hs
    by_cases z : bs.getD p 0 = 0
    · have := hs (decide_eq_false (fun k => k z))
      simp only [z]
      exact this
    · have := hy (decide_eq_true z)
      refine bIf_of (fun _ => ?_) (fun k => absurd k (by rw [decide_eq_false z]; decide))
      show oIx (.tuple (bs.map .int)) (.int (p : Int)) _
      walk_at "q"
      exact int_pick hpb this
  · have hi := paid_init nd ne h0 ti pm
    have hq8 : ((m.map fun p => (p, bs.getD p 0)).filter fun e => decide (e.2 ≠ 0)).length ≤ 8 := by
      refine Nat.le_trans (List.length_filter_le _ _) ?_
      rw [List.length_map]
      omega
    have kn : ∀ {q : List (Nat × Int)} {ps : List Pay}, PayI bs l q ps → (q.map (·.1)).Nodup := fun {q ps} hi => by
      obtain ⟨R, hR⟩ := hi.ks
      exact (List.nodup_append.mp (hR.nodup_iff.mpr nd)).1
    refine lf_dict (kn hi) ?_
    generalize ((m.map fun p => (p, bs.getD p 0)).filter fun e => decide (e.2 ≠ 0)) = q0 at hi hq8 ⊢
    refine qWhile_ind (m := q0.length) (fun k s => ∃ q ps, s = (lfD q, ps.map payD) ∧ q.length = k ∧ q.length ≤ 8 ∧ PayI bs l q ps) ⟨q0, [], rfl, rfl, hq8, hi⟩ fun k s nx hs hnx => ?_
    obtain ⟨q, ps, rfl, rfl, hq8, hi⟩ := hs
    have nq := kn hi
    unfold qb_paid_within_2
    dsimp only
    refine lf_emp ?_
    by_cases hq : q = []
    · subst hq
      walk_at "q"
      refine h ps (hi.ct.2 rfl) hi.py fun p => ?_
      rw [← hi.ef p]
      rfl
    · rw [show q.isEmpty = false from by cases q with | nil => exact absurd rfl hq | cons _ _ => rfl]
      walk_at "q"
      refine lf_items ?_
      refine lf_part (fun e => decide (e.2 < 0)) (fun e => .int (e.1 : Int)) (by omega) (fun e he sk yd hy hs => ?_) ?_
      · unfold qb_paid_within_3
        dsimp only
        refine lf_ix nq (v := e.2) he ?_
        walk_at "q"
        exact bIf_d (fun z => hy (decide_eq_true z)) fun z => hs (decide_eq_false z)
      rw [map_keys, q_minLZ]
      refine ⟨by rw [List.length_map]; exact some_neg hq hi.nz hi.s0, fun x hx hmin => ?_⟩
      obtain ⟨⟨P, vp⟩, hPf, rfl⟩ := List.mem_map.mp hx
      obtain ⟨hP, np⟩ := List.mem_filter.mp hPf
      have np : vp < 0 := of_decide_eq_true np
      walk_at "q"
      refine lf_items ?_
      refine lf_part (fun e => decide (0 < e.2)) (fun e => .int (e.1 : Int)) (by omega) (fun e he sk yd hy hs => ?_) ?_
      · unfold qb_paid_within_4
        dsimp only
        refine lf_ix nq (v := e.2) he ?_
        walk_at "q"
        exact bIf_d (fun z => hy (decide_eq_true z)) fun z => hs (decide_eq_false z)
      rw [map_keys, q_minLZ]
      refine ⟨by rw [List.length_map]; exact some_pos hq hi.nz hi.s0, fun x hx hmax => ?_⟩
      obtain ⟨⟨T, vt⟩, hTf, rfl⟩ := List.mem_map.mp hx
      obtain ⟨hT, pt⟩ := List.mem_filter.mp hTf
      have pt : 0 < vt := of_decide_eq_true pt
      dsimp only
      walk_at "q"
      refine lf_ix nq hP ?_
      walk_at "q"
      refine lf_ix nq hT ?_
      walk_at "q"
      obtain ⟨d, hd⟩ : ∃ d : Int, d = if vt < -vp then vt else -vp := ⟨_, rfl⟩
      have hd2 : d = vt ∨ d = -vp := by rw [hd]; split <;> simp
      rw [← hd]
      have hplen : ps.length ≤ 8 := by
        have := hi.ct.1 hq
        omega
      refine ⟨by omega, ?_⟩
      refine lf_ix nq hP ?_
      walk_at "q"
      refine lf_put (by omega) hP ?_
      have hne : P ≠ T := fun z => by
        subst z
        have a := lf_find nq hP
        rw [lf_find nq hT] at a
        injection a with a
        injection a with a
        omega
      have hT2 : (T, vt) ∈ lfS P (vp + d) q := by
        unfold lfS
        exact List.mem_map.mpr ⟨_, hT, if_neg fun z => hne z.symm⟩
      have kS : ∀ (p : Nat) (v : Int) (q : List (Nat × Int)), (lfS p v q).map (·.1) = q.map (·.1) := fun p v q => by
        unfold lfS
        rw [List.map_map]
        refine List.map_congr_left fun e _ => ?_
        simp only [Function.comp]
        split <;> rfl
      have lS : ∀ (p : Nat) (v : Int) (q : List (Nat × Int)), (lfS p v q).length = q.length := fun p v q => by unfold lfS; rw [List.length_map]
      refine lf_ix (by rw [kS]; exact nq) hT2 ?_
      walk_at "q"
      refine lf_put (by rw [lS]; omega) hT2 ?_
      refine lf_items ?_
      have nq2 : ((lfS T (vt - d) (lfS P (vp + d) q)).map (·.1)).Nodup := by rw [kS, kS]; exact nq
      refine lf_part (fun e => decide (e.2 ≠ 0)) (fun e => .tuple [.int (e.1 : Int), .int e.2]) (by rw [lS, lS]; omega) (fun e he sk yd hy hs => ?_) ?_
      · unfold qb_paid_within_5
        dsimp only
        refine lf_ix nq2 (v := e.2) he ?_
        walk_at "q"
        by_cases z : e.2 = 0
        · have := hs (decide_eq_false (fun k => k z))
          simp only [z]
          exact this
        · have := hy (decide_eq_true z)
          refine bIf_of (fun _ => ?_) (fun k => absurd k (by rw [decide_eq_false z]; decide))
          exact lf_ix nq2 (v := e.2) he this
      have hsub : (((lfS T (vt - d) (lfS P (vp + d) q)).filter fun e => decide (e.2 ≠ 0)).map (·.1)).Nodup := List.Nodup.sublist (List.Sublist.map _ List.filter_sublist) nq2
      refine lf_dict hsub ?_
      have hT3 : (T, vt) ∈ q.erase (P, vp) := (List.mem_erase_of_ne fun z => hne (by injection z with a b; exact a.symm)).mpr hT
      have pq : q.Perm ((P, vp) :: (T, vt) :: (q.erase (P, vp)).erase (T, vt)) := (List.perm_cons_erase hP).trans (List.Perm.cons _ (List.perm_cons_erase hT3))
      generalize (q.erase (P, vp)).erase (T, vt) = rest at pq
      have inq : ∀ e ∈ rest, e ∈ q := fun e he => pq.mem_iff.mpr (List.mem_cons_of_mem _ (List.mem_cons_of_mem _ he))
      have nk := (pq.map (·.1)).nodup_iff.mp nq
      simp only [List.map_cons] at nk
      have nk1 := List.nodup_cons.mp nk
      have nk2 := List.nodup_cons.mp nk1.2
      have tp := turn_perm (d := d) pq hne (fun e he z => nk1.1 (List.mem_cons_of_mem _ (List.mem_map.mpr ⟨e, he, z⟩))) (fun e he z => nk2.1 (List.mem_map.mpr ⟨e, he, z⟩)) fun e he => hi.nz e (inq e he)
      obtain ⟨s1, s2, s3⟩ := (hi.perm pq.symm).step nd ti np pt (fun e he z => by
        have := hmin (e.1 : Int) (List.mem_map.mpr ⟨e, List.mem_filter.mpr ⟨inq e he, decide_eq_true z⟩, rfl⟩)
        dsimp only at this
        omega) fun e he z => by
        have := hmax (e.1 : Int) (List.mem_map.mpr ⟨e, List.mem_filter.mpr ⟨inq e he, decide_eq_true z⟩, rfl⟩)
        dsimp only at this
        omega
      have lq := pq.length_eq
      simp only [List.length_cons] at lq
      have fin : ∀ r : List (Nat × Int), r.length < q.length → PayI bs l r (ps ++ [(P, T, d)]) → ((lfS T (vt - d) (lfS P (vp + d) q)).filter fun e => decide (e.2 ≠ 0)).Perm r → nx () (lfD ((lfS T (vt - d) (lfS P (vp + d) q)).filter fun e => decide (e.2 ≠ 0)), ps.map payD ++ [.tuple [.int (P : Int), .int (T : Int), .int d]]) := fun r hr hp hpm => by
        have := hpm.length_eq
        refine hnx _ _ (by omega) ⟨_, ps ++ [(P, T, d)], ?_, rfl, by omega, hp.perm hpm⟩
        rw [List.map_append]
        rfl
      rcases Int.lt_trichotomy vt (-vp) with c | c | c
      · rw [if_pos c] at hd
        subst hd
        rw [if_neg (by omega), if_pos (by omega)] at tp
        exact fin _ (by rw [List.length_cons]; omega) (s1 c) tp
      · rw [if_neg (by omega)] at hd
        rw [if_pos (by omega), if_pos (by omega)] at tp
        have := s3 c
        rw [show vt = d by omega] at this
        exact fin _ (by omega) this tp
      · rw [if_neg (by omega)] at hd
        rw [if_pos (by omega), if_neg (by omega)] at tp
        have := s2 c
        rw [← hd] at this
        rw [show vt + vp = vt - d by omega] at this
        exact fin _ (by rw [List.length_cons]; omega) this tp
theorem eff_app {a b : List Pay} {p : Nat} : eff (a ++ b) p = eff a p + eff b p := by
  unfold eff
  rw [List.map_append, List.sum_append]
theorem eff_perm {a b : List Pay} {p : Nat} (h : a.Perm b) : eff a p = eff b p := perm_sum (h.map _)
theorem sort_pays (ps : List Pay) : sortOk (ps.map payD) := by
  refine ⟨PySem.W.AllAlike.of fun a b => by simp [payD, PySem.W.alike, PySem.W.alikeAll], PySem.W.Sortable.tuples fun b => ⟨_, _, rfl⟩, fun d hd => ?_, ?_⟩
  · obtain ⟨x, _, rfl⟩ := List.mem_map.mp hd
    simp [payD, PyData.depth, PyData.depthAll]
  · induction ps with
    | nil => rfl
    | cons a l ih => rw [List.map_cons, PyData.hasDictAll, ih]; rfl
/-- payments among the places, that make all of them 0 -/
def PaysOk (bs : List Int) (ps : List Pay) : Prop := (∀ t ∈ ps, t.1 < bs.length ∧ t.2.1 < bs.length ∧ t.1 ≠ t.2.1 ∧ 0 < t.2.2) ∧ ∀ p, p < bs.length → bs.getD p 0 + eff ps p = 0
theorem fewest_q {bs : List Int} (ok : BalOk bs) (K : PyData → Prop) (h : ∀ (ls : List (List Nat)) (ps : List Pay), LotsR bs ls → ps.length + ls.length = bs.length → PaysOk bs ps → K (.tuple (ps.map payD))) : q_fewest_payments (.tuple (bs.map .int)) K := by
  unfold q_fewest_payments
  refine need_balances_q ok _ ?_
  refine lots_of_q ok _ fun ls hls => ?_
  rw [q_items]
  have hb := ok.1
  have nd := hls.pm.nodup_iff.mpr List.nodup_range
  have hfl := hls.pm.length_eq
  rw [List.length_range] at hfl
  refine qFor_ind (fun k s => ∃ ps : List Pay, s = ps.map payD ∧ ps.length + k = (ls.take k).flatten.length ∧ (∀ t ∈ ps, t.1 < bs.length ∧ t.2.1 < bs.length ∧ t.1 ≠ t.2.1 ∧ 0 < t.2.2) ∧ ∀ p, (if p ∈ (ls.take k).flatten then bs.getD p 0 else 0) + eff ps p = 0)
    ⟨[], rfl, rfl, by simp, fun p => by simp [eff]⟩ (fun k d s nx hd hs hnx => ?_) fun s hs => ?_
  · obtain ⟨ps, rfl, hlen, hpy, hef⟩ := hs
    rw [List.getElem?_map] at hd
    obtain ⟨row, hrow, rfl⟩ := Option.map_eq_some_iff.mp hd
    unfold rwD at hrow
    rw [List.getElem?_map] at hrow
    obtain ⟨l, hl, rfl⟩ := Option.map_eq_some_iff.mp hrow
    have hmem := List.mem_of_getElem? hl
    have hin : ∀ p ∈ l, p < bs.length := fun p hp => List.mem_range.mp (hls.pm.mem_iff.mp (List.mem_flatten.mpr ⟨l, hmem, hp⟩))
    have split3 : ls.flatten = (ls.take k).flatten ++ (l ++ (ls.drop (k + 1)).flatten) := by
      have hk := (List.getElem?_eq_some_iff.mp hl)
      obtain ⟨hk, e⟩ := hk
      rw [← List.flatten_cons, ← List.flatten_append]
      congr 1
      rw [← e, ← List.drop_eq_getElem_cons hk, List.take_append_drop]
    have tk : (ls.take (k + 1)).flatten = (ls.take k).flatten ++ l := by
      rw [List.take_add_one, hl, Option.toList_some, List.flatten_append, List.flatten_cons, List.flatten_nil, List.append_nil]
    rw [split3] at nd hfl
    rw [List.length_append, List.length_append] at hfl
    have nd1 := List.nodup_append.mp nd
    have nd2 := List.nodup_append.mp nd1.2.1
    have dis : ∀ p, p ∈ (ls.take k).flatten → p ∈ l → False := fun p h1 h2 => nd1.2.2 p h1 p (List.mem_append_left _ h2) rfl
    unfold qb_fewest_payments_1
    refine paid_within_q nd2.1 (hls.ok l hmem).1 hin (by omega) (hls.ok l hmem).2 (hls.tight hmem) _ fun qs hql hqy hqe => ?_
    rw [q_ex]
    rw [List.length_map, List.length_map]
    refine ⟨by omega, hnx _ ⟨ps ++ qs, by rw [List.map_append], ?_, fun t ht => ?_, fun p => ?_⟩⟩
    · rw [tk, List.length_append, List.length_append]
      omega
    · rcases List.mem_append.mp ht with z | z
      · exact hpy t z
      · obtain ⟨a, b, c, d⟩ := hqy t z
        exact ⟨hin _ a, hin _ b, c, d⟩
    · have h1 := hef p
      have h2 := hqe p
      rw [tk, eff_app]
      by_cases m1 : p ∈ (ls.take k).flatten
      · have m2 : ¬ p ∈ l := fun z => dis p m1 z
        rw [if_pos m1] at h1
        rw [if_neg m2] at h2
        rw [if_pos (List.mem_append_left _ m1)]
        omega
      · rw [if_neg m1] at h1
        by_cases m2 : p ∈ l
        · rw [if_pos m2] at h2
          rw [if_pos (List.mem_append_right _ m2)]
          omega
        · rw [if_neg m2] at h2
          rw [if_neg fun z => by rcases List.mem_append.mp z with z | z; exact m1 z; exact m2 z]
          omega
  · obtain ⟨ps, rfl, hlen, hpy, hef⟩ := hs
    have el : ((rwD ls).map PyData.list).length = ls.length := by unfold rwD; rw [List.length_map, List.length_map]
    rw [el, List.take_length] at hlen hef
    rw [q_sorted]
    refine ⟨sort_pays ps, ?_⟩
    obtain ⟨qs, eq, pm⟩ := map_perm (sortD_perm (ps.map payD))
    rw [show sortD (ps.map payD) = qs.map payD from eq]
    walk_at "q"
    refine h ls qs hls (by rw [pm.length_eq]; omega) ⟨fun t ht => hpy t (pm.mem_iff.mp ht), fun p hp => ?_⟩
    have := hef p
    rw [if_pos (hls.pm.mem_iff.mpr (List.mem_range.mpr hp))] at this
    rw [eff_perm pm]
    exact this
theorem few_count {bs : List Int} {vs : List Nat} {ls : List (List Nat)} (hv : TabL bs (2 ^ bs.length) vs) (h : LotsR bs ls) : (zI vs).getD ((zI vs).length - 1) 0 = (ls.length : Int) := by
  rw [zI_get, zI_len, hv.1]
  have hp0 : 0 < 2 ^ bs.length := Nat.pow_pos (by decide)
  rw [(hv.2 (2 ^ bs.length - 1) (by omega)).uniq h.top]
theorem TabL.next {bs : List Int} {j n v : Nat} {vs : List Nat} (h : TabL bs j vs) (hj : 0 < j) (hlt : j < 2 ^ n) (q : Nat) (hq : j.testBit q = true) (hv : vs.getD (j - 2 ^ q) 0 = v) (hm : ∀ p ∈ plN j n, vs.getD (j - 2 ^ p) 0 ≤ v) : TabL bs (j + 1) (vs ++ [v + if sv bs j = 0 then 1 else 0]) := by
  refine h.snoc (most_step (f := fun p => vs.getD (j - 2 ^ p) 0) (by omega) (fun p hp => h.2 _ ?_) hq hv fun p hp => hm p (plN_of (bit_lt hlt hp) hp))
  have := bit_sub hp
  have : 0 < 2 ^ p := Nat.pow_pos (by decide)
  omega
theorem set_intS {c : List Int} {p : Nat} {v : Int} : (c.map PyData.int).set p (.int v) = (c.set p v).map .int := (List.map_set ..).symm
def apL (cs : List Int) (t : Pay) : List Int := (cs.set t.1 (cs.getD t.1 0 + t.2.2)).set t.2.1 ((cs.set t.1 (cs.getD t.1 0 + t.2.2)).getD t.2.1 0 - t.2.2)
theorem set_getD {cs : List Int} {a p : Nat} {x : Int} (h : a < cs.length) : (cs.set a x).getD p 0 = if a = p then x else cs.getD p 0 := by
  rw [List.getD_eq_getElem?_getD, List.getD_eq_getElem?_getD, List.getElem?_set]
  by_cases e : a = p
  · rw [if_pos e, if_pos h, if_pos e]
    rfl
  · rw [if_neg e, if_neg e]
theorem apL_get {cs : List Int} {t : Pay} {p : Nat} (h1 : t.1 < cs.length) (h2 : t.2.1 < cs.length) : (apL cs t).getD p 0 = cs.getD p 0 + ((if t.1 = p then t.2.2 else 0) - (if t.2.1 = p then t.2.2 else 0)) := by
  unfold apL
  rw [set_getD (by rw [List.length_set]; exact h2), set_getD h1, set_getD h1]
  by_cases a : t.1 = p <;> by_cases b : t.2.1 = p
  · rw [if_pos b, if_pos a, if_pos b, if_pos (by rw [a, b]), a]
    omega
  · rw [if_neg b, if_pos a, if_pos a, if_neg b, a]
    omega
  · rw [if_pos b, if_neg a, if_pos b, if_neg (fun z => a (z.trans b)), b]
    omega
  · rw [if_neg b, if_neg a, if_neg a, if_neg b]
    omega
def Aps (bs : List Int) (ps : List Pay) (cs : List Int) : Prop := cs.length = bs.length ∧ ∀ p, p < bs.length → cs.getD p 0 = bs.getD p 0 + eff ps p
theorem Aps.step {bs cs : List Int} {ps : List Pay} {t : Pay} {k : Nat} (h : Aps bs (ps.take k) cs) (hk : ps[k]? = some t) (h1 : t.1 < bs.length) (h2 : t.2.1 < bs.length) : Aps bs (ps.take (k + 1)) (apL cs t) := by
  refine ⟨by unfold apL; rw [List.length_set, List.length_set]; exact h.1, fun p hp => ?_⟩
  rw [apL_get (by rw [h.1]; exact h1) (by rw [h.1]; exact h2), h.2 p hp, List.take_add_one, hk, Option.toList_some, eff_snoc]
  omega
theorem Aps.all0 {bs cs : List Int} {ps : List Pay} (h : Aps bs ps cs) (hp : PaysOk bs ps) : ∀ x ∈ cs, x = 0 := by
  intro x hx
  obtain ⟨i, hi, rfl⟩ := List.mem_iff_getElem.mp hx
  have h1 := h.2 i (by rw [← h.1]; exact hi)
  rw [hp.2 i (by rw [← h.1]; exact hi), List.getD_eq_getElem?_getD, List.getElem?_eq_getElem hi] at h1
  exact h1
theorem pays_get {ps : List Pay} {k : Nat} {d : PyData} (h : (ps.map payD)[k]? = some d) : ∃ t, ps[k]? = some t ∧ d = .tuple [.int (t.1 : Int), .int (t.2.1 : Int), .int t.2.2] := by
  rw [List.getElem?_map] at h
  obtain ⟨t, ht, rfl⟩ := Option.map_eq_some_iff.mp h
  exact ⟨t, ht, rfl⟩
theorem is_payment_q {n : Nat} {t : Pay} (h1 : t.1 < n) (h2 : t.2.1 < n) (h3 : t.1 ≠ t.2.1) (h4 : 0 < t.2.2) (K : PyData → Prop) (h : K (.bool true)) : q_is_payment (.int (n : Int)) (payD t) K := by
  unfold q_is_payment payD
  walk_at "q"
  rw [decide_eq_true (show (((0 + 1 + 1 + 1 : Nat) : Int) = 3) from rfl)]
  walk_at "q"
  refine qLc_map (fun d => .bool (isW d)) (by simp) (fun d hd sk yd hy => by unfold qb_is_payment_1; rw [is_whole_q]; exact hy) ?_
  rw [q_allB]
  rw [show ([PyData.int (t.1 : Int), .int (t.2.1 : Int), .int t.2.2].all isW) = true from rfl]
  walk_at "q"
  rw [decide_eq_true (show (0 : Int) ≤ (t.1 : Int) by omega), decide_eq_true (show (t.1 : Int) < (n : Int) by omega), decide_eq_true (show (0 : Int) ≤ (t.2.1 : Int) by omega), decide_eq_true (show (t.2.1 : Int) < (n : Int) by omega), decide_eq_false (show ¬ (t.1 : Int) = (t.2.1 : Int) by omega), decide_eq_true h4]
  exact h
theorem any_zero {cs : List Int} (h : ∀ x ∈ cs, x = 0) : (cs.any fun n => n != 0) = false := by
  rw [List.any_eq_false]
  intro x hx
  rw [h x hx]
  decide
theorem settles_q {bs : List Int} {ps : List Pay} (ok : BalOk bs) (hl : ps.length ≤ 100) (hp : PaysOk bs ps) (K : PyData → Prop) (h : K (.bool true)) : q_settles (.tuple (bs.map .int)) (.tuple (ps.map payD)) K := by
  unfold q_settles
  refine need_balances_q ok _ ?_
  walk_at "q"
  refine qLc_map (fun _ => .bool true) (by rw [List.length_map]; omega) (fun d hd sk yd hy => ?_) ?_
  · obtain ⟨t, ht, rfl⟩ := List.mem_map.mp hd
    obtain ⟨t1, t2, t3, t4⟩ := hp.1 t ht
    unfold qb_settles_1
    walk_at "q"
    exact is_payment_q t1 t2 t3 t4 _ hy
  · rw [q_allB, List.all_eq_true.mpr (fun _ _ => rfl)]
    walk_at "q"
    refine qFor_ind (fun k s => ∃ cs : List Int, s = cs.map .int ∧ Aps bs (ps.take k) cs) ⟨bs, rfl, rfl, fun p _ => by simp [eff]⟩ (fun k d s nx hd hs hnx => ?_) fun s hs => ?_
    · obtain ⟨cs, rfl, hc⟩ := hs
      obtain ⟨t, ht, rfl⟩ := pays_get hd
      obtain ⟨t1, t2, t3, t4⟩ := hp.1 t (List.mem_of_getElem? ht)
      have hcl := hc.1
      unfold qb_settles_2
      walk_at "q"
      refine int_pick (by omega) ?_
      walk_at "q"
      refine st_in (by omega) (by rw [List.length_map]; omega) ?_
      rw [Int.toNat_natCast, set_intS]
      refine int_pick (by rw [List.length_set]; omega) ?_
      walk_at "q"
      refine st_in (by omega) (by rw [List.length_map, List.length_set]; omega) ?_
      rw [Int.toNat_natCast, set_intS]
      exact hnx _ ⟨_, rfl, hc.step ht t1 t2⟩
    · obtain ⟨cs, rfl, hc⟩ := hs
      rw [List.length_map, List.take_length] at hc
      have hz := any_zero (hc.all0 hp)
      show (match intsD (cs.map .int) with
        | some ns => _
        | none => False)
      rw [DL.ints_map]
      dsimp only
      rw [hz]
      exact h
theorem lots_table_q {bs : List Int} (ok : BalOk bs) (K : PyData → Prop) (h : ∀ vs, TabL bs (2 ^ bs.length) vs → K (.tuple ((zI vs).map .int))) : q_lots_table (.tuple (bs.map .int)) K := by
  unfold q_lots_table
  refine need_balances_q ok _ ?_
  refine table_of_q ok.1 _ fun vs hv => ?_
  walk_at "q"
  exact h vs hv
theorem okT_tab {bs : List Int} {vs : List Nat} (hv : TabL bs (2 ^ bs.length) vs) : okT bs (zI vs) = true := by
  unfold okT
  rw [List.all_eq_true]
  intro m hm
  rw [List.mem_range, zI_len, hv.1] at hm
  rw [List.all_eq_true]
  intro p hp
  obtain ⟨h1, h2⟩ := plN_mem hp
  have hs := bit_sub h2
  have hp0 : 0 < 2 ^ p := Nat.pow_pos (by decide)
  unfold abB evI
  rw [decide_eq_true_eq, zI_get, zI_get, sums_sv bs m hm]
  have hM := hv.2 m hm
  have hM2 := hv.2 (m - 2 ^ p) (by omega)
  split
  · have := hM.2 _ (hM2.1.rest (sb_pow h2).sub (by omega) (by assumption))
    omega
  · have := hM.2 _ (hM2.1.mono (sb_pow h2).sub)
    omega
/-- [F x for x in xs if p x], nothing changed -/
theorem qLc_selB {α I S : Type} {b : PyData → I → S → (I → S → Prop) → (PyData → I → S → Prop) → Prop} {xs : List α} {D : α → PyData} {i : I} {s : S} {K : List PyData → S → Prop} (F : α → PyData) (p : α → Bool) (hz : xs.length ≤ 100000)
    (step : ∀ x ∈ xs, ∀ (sk : I → S → Prop) (yd : PyData → I → S → Prop), (p x = true → yd (F x) i s) → (p x = false → sk i s) → b (D x) i s sk yd) (fin : K ((xs.filter p).map F) s) : qLc b i (xs.map D) [] s K :=
  qLc_ind (fun k acc s' => acc = ((xs.take k).filter p).map F ∧ s' = s) ⟨by simp, rfl⟩ (fun k acc s' hk h => by
      rw [h.1, List.length_map]
      have := List.length_filter_le p (xs.take k)
      rw [List.length_map] at hk
      rw [List.length_take] at this
      omega)
    (fun k d acc s' sk yd hd ⟨h1, h2⟩ hs hy => by
      subst h2
      rw [List.getElem?_map] at hd
      obtain ⟨x, ex, rfl⟩ := Option.map_eq_some_iff.mp hd
      have e : xs.take (k + 1) = xs.take k ++ [x] := by rw [List.take_add_one, ex]; rfl
      refine step x (List.mem_of_getElem? ex) sk yd (fun t => hy _ _ ⟨?_, rfl⟩) fun t => hs _ ⟨?_, rfl⟩
      · rw [e, List.filter_append, List.map_append, h1]
        simp [t]
      · rw [e, List.filter_append, List.map_append, h1]
        simp [t]) fun acc s' ⟨h1, h2⟩ => by
      subst h1 h2
      rw [List.length_map, List.take_length]
      exact fin
theorem qLc_all1B {α I S : Type} {b : PyData → I → S → (I → S → Prop) → (PyData → I → S → Prop) → Prop} {xs : List α} {D : α → PyData} {i : I} {s : S} {K : List PyData → S → Prop} (F : α → PyData) (hz : xs.length ≤ 100000)
    (step : ∀ x ∈ xs, ∀ (sk : I → S → Prop) (yd : PyData → I → S → Prop), yd (F x) i s → b (D x) i s sk yd) (fin : K (xs.map F) s) : qLc b i (xs.map D) [] s K :=
  qLc_selB F (fun _ => true) hz (fun x hx sk yd h _ => step x hx sk yd (h rfl)) (by
      have e : xs.filter (fun _ => true) = xs := by simp
      rw [e]
      exact fin)
theorem q_itemsMT' {xs : List PyData} {K : List PyData → Prop} : itemsM (.tuple xs) K = K xs := q_itemsT
theorem q_itemsML' {xs : List PyData} {K : List PyData → Prop} : itemsM (.list xs) K = K xs := q_items
theorem q_ixMT' {xs : List PyData} {y : PyData} {P : PyData → Prop} : oIxM (.tuple xs) y P = oIx (.tuple xs) y P := rfl
theorem q_ixML' {xs : List PyData} {y : PyData} {P : PyData → Prop} : oIxM (.list xs) y P = oIx (.list xs) y P := rfl
local macro_rules | `(tactic| walk_at "m") => `(tactic| ((try simp only [q_itemsMT', q_itemsML', q_ixMT', q_ixML']); walk_at "q"))
theorem tO_n {c : Prop} [Decidable c] (h : ¬ c) {u : (Bool → Prop) → Prop} {K : Bool → Prop} (p : u K) : DL.tOr (decide c) u K := by
  rw [decide_eq_false h]
  exact p
theorem bI_f {b : Bool} (h : b = false) {p q : Prop} (x : q) : bIf b p q := by
  subst h
  exact x
theorem bN_t {p q : Prop} (x : q) : bIf (!true) p q := x
theorem sv_congr : ∀ {as bs : List Int} {m : Nat}, as.length = bs.length → (∀ i, m.testBit i = true → as.getD i 0 = bs.getD i 0) → sv as m = sv bs m
  | [], [], _, _, _ => rfl
  | [], _ :: _, _, h, _ => by simp at h
  | _ :: _, [], _, h, _ => by simp at h
  | a :: as, b :: bs, m, hl, h => by
    have ih := sv_congr (as := as) (bs := bs) (m := m / 2) (by simpa using hl) fun i hi => by
      have := h (i + 1) (by rw [Nat.testBit_succ]; exact hi)
      simpa using this
    show (if m % 2 = 1 then a else 0) + sv as (m / 2) = (if m % 2 = 1 then b else 0) + sv bs (m / 2)
    rw [ih]
    by_cases e : m % 2 = 1
    · have := h 0 (by rw [Nat.testBit_zero]; exact decide_eq_true e)
      have this : a = b := by simpa using this
      rw [this]
    · rw [if_neg e, if_neg e]
theorem lots_congr {as bs : List Int} (hl : as.length = bs.length) {m n : Nat} (h : Lots bs m n) : (∀ i, m.testBit i = true → as.getD i 0 = bs.getD i 0) → Lots as m n := by
  induction h with
  | zero m => exact fun _ => .zero m
  | @more m w n h1 h2 h3 _ ih =>
    intro he
    exact .more h1 h2 (by rw [sv_congr hl fun i hi => he i (h1 i hi)]; exact h3) (ih fun i hi => he i (h1.sub i hi))
theorem sv_off {bs : List Int} {w p : Nat} (h : w.testBit p = true) : sv bs w = bs.getD p 0 + sv bs (w - 2 ^ p) := by
  rw [sv_split (sb_pow h), sv_pow]
theorem not_pow {w p : Nat} (h : w.testBit p = true) {i : Nat} (hi : (w - 2 ^ p).testBit i = true) : i ≠ p ∧ w.testBit i = true := by
  rw [sub_bit (sb_pow h), Bool.and_eq_true, pow_bit] at hi
  refine ⟨fun e => ?_, hi.1⟩
  subst e
  simp at hi
theorem lots_less {as : List Int} {m n : Nat} (h : Lots as m n) : ∀ {k : Nat}, k ≤ n → Lots as m k := by
  induction h with
  | zero m => exact fun {k} hk => by rw [Nat.le_zero.mp hk]; exact .zero _
  | @more m w n h1 h2 h3 _ ih =>
    intro k hk
    cases k with
    | zero => exact .zero _
    | succ k => exact .more h1 h2 h3 (ih (by omega))
/-- one payment between two places: one lot less at most -/
theorem lots_pay {as bs : List Int} (hl : as.length = bs.length) {a b : Nat} (hab : a ≠ b) {x : Int} (ea : as.getD a 0 = bs.getD a 0 - x) (eb : as.getD b 0 = bs.getD b 0 + x) (eo : ∀ i, i ≠ a → i ≠ b → as.getD i 0 = bs.getD i 0) {m n : Nat} (ha : m.testBit a = true) (hb : m.testBit b = true) (h : Lots bs m n) : Lots as m (n - 1) := by
  have off : ∀ {r k : Nat}, Sb r m → r.testBit a = false → r.testBit b = false → Lots bs r k → Lots as m k := fun {r k} hs h1 h2 hh =>
    (lots_congr hl hh fun i hi => eo i (fun e => by rw [e, h1] at hi; cases hi) fun e => by rw [e, h2] at hi; cases hi).mono hs
  rcases h.at_ ha with h1 | ⟨w, w1, w2, w3, w4, w5⟩
  · have sa := (sb_pow ha).sub
    have hb2 : (m - 2 ^ a).testBit b = true := by rw [sub_bit (sb_pow ha), hb, pow_bit, decide_eq_false hab]; rfl
    have na : (m - 2 ^ a).testBit a = false := by rw [sub_bit (sb_pow ha), ha, pow_bit]; simp
    rcases h1.at_ hb2 with h2 | ⟨w, w1, w2, w3, w4, w5⟩
    · have sb := (sb_pow hb2).sub
      refine lots_less (off (sb.trans sa) ?_ ?_ h2) (by omega)
      · cases q : (m - 2 ^ a - 2 ^ b).testBit a with
        | false => rfl
        | true => have := sb a q; rw [na] at this; cases this
      · rw [sub_bit (sb_pow hb2), hb2, pow_bit]; simp
    · refine off (w1.sub.trans sa) ?_ ?_ w5
      · cases q : (m - 2 ^ a - w).testBit a with
        | false => rfl
        | true => have := w1.sub a q; rw [na] at this; cases this
      · rw [sub_bit w1, hb2, w2]; rfl
  · have na : (m - w).testBit a = false := by rw [sub_bit w1, ha, w2]; rfl
    cases e : w.testBit b with
    | true => exact off w1.sub na (by rw [sub_bit w1, hb, e]; rfl) w5
    | false =>
      have hb2 : (m - w).testBit b = true := by rw [sub_bit w1, hb, e]; rfl
      rcases w5.at_ hb2 with h2 | ⟨u, u1, u2, u3, u4, u5⟩
      · have sb := (sb_pow hb2).sub
        refine off (sb.trans w1.sub) ?_ ?_ h2
        · cases q : (m - w - 2 ^ b).testBit a with
          | false => rfl
          | true => have := sb a q; rw [na] at this; cases this
        · rw [sub_bit (sb_pow hb2), hb2, pow_bit]; simp
      · have sR : Sb (m - w - u) m := u1.sub.trans w1.sub
        have ua : u.testBit a = false := by
          cases q : u.testBit a with
          | false => rfl
          | true => have := u1 a q; rw [na] at this; cases this
        have nRa : (m - w - u).testBit a = false := by
          cases q : (m - w - u).testBit a with
          | false => rfl
          | true => have := u1.sub a q; rw [na] at this; cases this
        have nRb : (m - w - u).testBit b = false := by rw [sub_bit u1, hb2, u2]; rfl
        have e1 := sv_split (bs := as) sR
        have e2 := sv_split (bs := as) w1
        have e3 := sv_split (bs := as) u1
        have e4 : sv as w = sv bs w - x := by
          rw [sv_off w2, sv_off (bs := bs) w2, ea, sv_congr hl fun i hi => eo i (not_pow w2 hi).1 fun z => by
            have := (not_pow w2 hi).2
            rw [z, e] at this
            cases this]
          omega
        have e5 : sv as u = sv bs u + x := by
          rw [sv_off u2, sv_off (bs := bs) u2, eb, sv_congr hl fun i hi => eo i (fun z => by
            have := (not_pow u2 hi).2
            rw [z, ua] at this
            cases this) (not_pow u2 hi).1]
          omega
        have hle := sR.le
        have wle := w1.le
        have wpos : 0 < w := by
          rcases Nat.eq_zero_or_pos w with z | z
          · rw [z] at w2; simp at w2
          · exact z
        obtain ⟨k, rfl⟩ : ∃ k, n = k + 2 := ⟨n - 2, by omega⟩
        refine .more (n := k) sR.sub (by omega) (by omega) ?_
        rw [show m - (m - (m - w - u)) = m - w - u by omega]
        exact lots_congr hl u5 fun i hi => eo i (fun z => by rw [z, nRa] at hi; cases hi) fun z => by rw [z, nRb] at hi; cases hi
theorem full_bit {n i : Nat} : (2 ^ n - 1).testBit i = decide (i < n) := Nat.testBit_two_pow_sub_one _ _
theorem lots_zero : ∀ (n : Nat) (bs : List Int), bs.length = n → (∀ p, p < n → bs.getD p 0 = 0) → ∀ k, k ≤ n → Lots bs (2 ^ k - 1) k
  | n, bs, hl, h0, 0, _ => .zero _
  | n, bs, hl, h0, k + 1, hk => by
    have hb : (2 ^ (k + 1) - 1).testBit k = true := by rw [full_bit]; exact decide_eq_true (by omega)
    have hp : 0 < 2 ^ k := Nat.pow_pos (by decide)
    refine .more (sb_pow hb) (by omega) (by rw [sv_pow]; exact h0 k (by omega)) ?_
    rw [show 2 ^ (k + 1) - 1 - 2 ^ k = 2 ^ k - 1 by rw [Nat.pow_succ]; omega]
    exact lots_zero n bs hl h0 k (by omega)
theorem eff_cons {t : Pay} {ps : List Pay} {p : Nat} : eff (t :: ps) p = ((if t.1 = p then t.2.2 else 0) - (if t.2.1 = p then t.2.2 else 0)) + eff ps p := by
  unfold eff
  rw [List.map_cons, List.sum_cons]
theorem lots_pays : ∀ (ps : List Pay) (bs : List Int), PaysOk bs ps → ∃ k, Lots bs (2 ^ bs.length - 1) k ∧ bs.length ≤ k + ps.length
  | [], bs, h => ⟨bs.length, lots_zero _ bs rfl (fun p hp => by have := h.2 p hp; simpa [eff] using this) _ (Nat.le_refl _), by simp⟩
  | t :: ps, bs, h => by
    obtain ⟨t1, t2, t3, t4⟩ := h.1 t List.mem_cons_self
    obtain ⟨cs, hcl, hc⟩ : ∃ cs : List Int, cs.length = bs.length ∧ ∀ p, p < bs.length → cs.getD p 0 = bs.getD p 0 + ((if t.1 = p then t.2.2 else 0) - (if t.2.1 = p then t.2.2 else 0)) :=
      ⟨apL bs t, by unfold apL; rw [List.length_set, List.length_set], fun p hp => apL_get t1 t2⟩
    have hcs : PaysOk cs ps := by
      refine ⟨fun u hu => by rw [hcl]; exact h.1 u (List.mem_cons_of_mem _ hu), fun p hp => ?_⟩
      rw [hcl] at hp
      have := h.2 p hp
      rw [eff_cons] at this
      rw [hc p hp]
      omega
    obtain ⟨k, hk, hle⟩ := lots_pays ps cs hcs
    rw [hcl] at hk hle
    refine ⟨k - 1, lots_pay hcl.symm (a := t.1) (b := t.2.1) t3 (x := t.2.2) ?_ ?_ (fun i hi hj => ?_) (by rw [full_bit]; exact decide_eq_true t1) (by rw [full_bit]; exact decide_eq_true t2) hk, by rw [List.length_cons]; omega⟩
    · have := hc t.1 t1
      rw [if_pos rfl, if_neg (fun z => t3 z.symm)] at this
      omega
    · have := hc t.2.1 t2
      rw [if_neg t3, if_pos rfl] at this
      omega
    · by_cases hp : i < bs.length
      · have := hc i hp
        rw [if_neg (fun z => hi z.symm), if_neg (fun z => hj z.symm)] at this
        omega
      · rw [List.getD_eq_getElem?_getD, List.getD_eq_getElem?_getD, List.getElem?_eq_none (by omega), List.getElem?_eq_none (by omega)]
/-- the fewest are no more than any that settle -/
theorem few_le {bs : List Int} {ls : List (List Nat)} {qs ps : List Pay} (hl : LotsR bs ls) (hq : qs.length + ls.length = bs.length) (hp : PaysOk bs ps) : qs.length ≤ ps.length := by
  obtain ⟨k, hk, hle⟩ := lots_pays ps bs hp
  have := hl.top.2 k hk
  omega
/-- a table that is above all tells no fewer lots -/
theorem above_lots {bs vs : List Int} (hv : vs.length = 2 ^ bs.length) (h0 : 0 ≤ vs.getD 0 0) (ok : okT bs vs = true) : ∀ m, m < 2 ^ bs.length → ∀ n, Lots bs m n → (n : Int) ≤ vs.getD m 0 := by
  intro m
  induction m using Nat.strongRecOn with
  | ind m ih =>
    intro hm n hn
    by_cases z : m = 0
    · subst z
      have := most_zero.2 n hn
      omega
    · have ab : ∀ p, m.testBit p = true → vs.getD (m - 2 ^ p) 0 + evI bs m ≤ vs.getD m 0 := fun p hp => by
        unfold okT at ok
        rw [List.all_eq_true] at ok
        have h1 := ok m (List.mem_range.mpr (by omega))
        rw [List.all_eq_true] at h1
        have := h1 p (plN_of (bit_lt hm hp) hp)
        unfold abB at this
        simpa using this
      have lt : ∀ p, m.testBit p = true → m - 2 ^ p < m := fun p hp => by
        have := bit_sub hp
        have : 0 < 2 ^ p := Nat.pow_pos (by decide)
        omega
      have ev0 : 0 ≤ evI bs m := by unfold evI; split <;> omega
      rcases hn.step z with ⟨p, hp, hl⟩ | ⟨hs, h1, p, hp, hl⟩
      · have := ih _ (lt p hp) (by have := lt p hp; omega) n hl
        have := ab p hp
        omega
      · have := ih _ (lt p hp) (by have := lt p hp; omega) (n - 1) hl
        have := ab p hp
        have e1 : evI bs m = 1 := by unfold evI; rw [sums_sv bs m hm, if_pos hs]
        omega
theorem sum_set : ∀ {cs : List Int} {a : Nat} {x : Int}, a < cs.length → (cs.set a x).sum = cs.sum - cs.getD a 0 + x
  | [], _, _, h => by simp at h
  | c :: cs, 0, x, _ => by
    simp
    omega
  | c :: cs, a + 1, x, h => by
    have ih := sum_set (cs := cs) (a := a) (x := x) (by simpa using h)
    rw [List.set_cons_succ, List.sum_cons, ih, List.sum_cons]
    simp
    omega
theorem drawn_q {n : Int} {xs : List PyData} {many : Nat} (h8 : many ≤ 8) (hp : BagOk n xs) (hn : n ≤ 10 ^ 4) (K : PyData → List PyData → Prop)
    (h : ∀ bs ps xs', bs.length = many → BalOk bs → (∀ b ∈ bs, -(10 ^ 14) ≤ b ∧ b ≤ 10 ^ 14) → PaysOk bs ps → ps.length ≤ 9 → BagOk (n + 40) xs' → K (.tuple [.tuple (bs.map .int), .tuple (ps.map payD)]) xs') : q_law_drawn xs (.int (many : Int)) K := by
  unfold q_law_drawn
  refine bag_take_q hp (by omega) (by omega) (by omega) _ fun z xs z0 z1 hp => ?_
  obtain ⟨c, ec, c0, c1, cm⟩ : ∃ c : Int, (if decide ((1 : Int) < (many : Int)) = true then (1 : Int) else 0) = c ∧ 0 ≤ c ∧ c ≤ 1 ∧ (c = 1 → 1 < many) := by
    by_cases q : (1 : Int) < (many : Int)
    · exact ⟨1, by rw [decide_eq_true q, if_pos rfl], by decide, by decide, fun _ => by omega⟩
    · exact ⟨0, by rw [decide_eq_false q, if_neg (by simp)], by decide, by decide, fun e => by cases e⟩
  walk_at "q"
  rw [ec]
  obtain ⟨s, es, s0, s1, sm⟩ : ∃ s : Nat, z * c = (s : Int) ∧ 0 ≤ (s : Int) ∧ s ≤ 9 ∧ (0 < s → 1 < many) := by
    have : c = 0 ∨ c = 1 := by omega
    rcases this with rfl | rfl
    · exact ⟨0, by omega, by omega, by omega, by omega⟩
    · exact ⟨z.toNat, by omega, by omega, by omega, fun _ => cm rfl⟩
  rw [es]
  refine ⟨⟨sz_of (by omega) (by omega), sz_of (by omega) (by omega)⟩, ⟨sz_of (by decide) (by decide), by decide, by decide⟩, ?_⟩
  refine bag_take_q hp (by omega) (by omega) (by omega) _ fun w xs w0 w1 hp => ?_
  refine pick_mem w0 (by simpa using w1) fun d hd => ?_
  obtain ⟨far, rfl, f0, f1⟩ : ∃ far : Int, d = .int far ∧ 1 ≤ far ∧ far ≤ 10 ^ 13 := by
    simp only [List.mem_cons, List.not_mem_nil, or_false] at hd
    rcases hd with rfl | rfl | rfl <;> exact ⟨_, rfl, by decide, by decide⟩
  refine ⟨by omega, by omega, ?_⟩
  have er : List.replicate (many : Int).toNat (PyData.int 0) = (List.replicate many (0 : Int)).map .int := by rw [Int.toNat_natCast, List.map_replicate]
  rw [er, Int.toNat_natCast]
  refine qFor_range (fun j s => BagOk (n + 2 + 3 * j) s.1 ∧ ∃ (ps : List Pay) (bs : List Int), s.2.1 = ps.map payD ∧ s.2.2 = bs.map .int ∧ ps.length = j ∧ bs.length = many ∧ bs.sum = 0 ∧ (∀ t ∈ ps, t.1 < many ∧ t.2.1 < many ∧ t.1 ≠ t.2.1 ∧ 0 < t.2.2) ∧ (∀ p, p < many → bs.getD p 0 + eff ps p = 0) ∧ ∀ p, p < many → -(10 ^ 13 * (j : Int)) ≤ bs.getD p 0 ∧ bs.getD p 0 ≤ 10 ^ 13 * (j : Int))
    ⟨hp.mono (by omega), [], List.replicate many 0, rfl, rfl, rfl, by simp, sum_rep many, by simp, fun p hp => by simp [eff, List.getD_eq_getElem?_getD, List.getElem?_replicate, hp], fun p hp => by simp [List.getD_eq_getElem?_getD, List.getElem?_replicate, hp]⟩ (fun j st nx hj hi hnx => ?_) fun st hi => ?_
  · obtain ⟨a1, a2, a3⟩ := st
    obtain ⟨hp, ps, bs, e1, e2, pl, bl, b0, pok, beq, bbd⟩ := hi
    dsimp only at hp e1 e2
    subst e1
    subst e2
    have m1 := sm (by omega)
    unfold qb_law_drawn_1
    refine bag_take_q hp (by omega) (by omega) (by omega) _ fun pa xs pa0 pa1 hp => ?_
    walk_at "q"
    refine bag_take_q hp (by omega) (by omega) (by omega) _ fun r xs r0 r1 hp => ?_
    walk_at "q"
    refine ⟨by omega, ?_⟩
    refine bag_take_q hp (by omega) (by omega) (by omega) _ fun x xs x0 x1 hp => ?_
    obtain ⟨pa, rfl⟩ : ∃ k : Nat, pa = (k : Int) := ⟨pa.toNat, by omega⟩
    obtain ⟨ta, eta, t1, t2⟩ : ∃ k : Nat, ((pa : Int) + 1 + r) % (many : Int) = (k : Int) ∧ k < many ∧ pa ≠ k := by
      obtain ⟨r, rfl⟩ : ∃ k : Nat, r = (k : Int) := ⟨r.toNat, by omega⟩
      have e : (pa : Int) + 1 + (r : Int) = ((pa + 1 + r : Nat) : Int) := by omega
      refine ⟨(pa + 1 + r) % many, by rw [e, ← Int.natCast_emod], Nat.mod_lt _ (by omega), ?_⟩
      rcases Nat.lt_or_ge (pa + 1 + r) many with q | q
      · rw [Nat.mod_eq_of_lt q]
        omega
      · rw [Nat.mod_eq_sub_mod q, Nat.mod_eq_of_lt (by omega)]
        omega
    rw [eta]
    walk_at "q"
    refine ⟨by omega, ?_⟩
    refine int_pick (by omega) ?_
    walk_at "q"
    refine st_in (by omega) (by rw [List.length_map]; omega) ?_
    rw [Int.toNat_natCast, set_intS]
    refine int_pick (by rw [List.length_set]; omega) ?_
    walk_at "q"
    refine st_in (by omega) (by rw [List.length_map, List.length_set]; omega) ?_
    rw [Int.toNat_natCast, set_intS]
    have ap : (bs.set pa (bs.getD pa 0 - (1 + x))).set ta ((bs.set pa (bs.getD pa 0 - (1 + x))).getD ta 0 + (1 + x)) = apL bs (pa, ta, -(1 + x)) := by
      unfold apL
      dsimp only
      rw [show bs.getD pa 0 + -(1 + x) = bs.getD pa 0 - (1 + x) by omega, show (bs.set pa (bs.getD pa 0 - (1 + x))).getD ta 0 - -(1 + x) = (bs.set pa (bs.getD pa 0 - (1 + x))).getD ta 0 + (1 + x) by omega]
    rw [ap]
    have al : (apL bs (pa, ta, -(1 + x))).length = many := by unfold apL; rw [List.length_set, List.length_set, bl]
    have ag : ∀ p, (apL bs (pa, ta, -(1 + x))).getD p 0 = bs.getD p 0 + ((if pa = p then -(1 + x) else 0) - (if ta = p then -(1 + x) else 0)) := fun p => apL_get (t := (pa, ta, -(1 + x))) (by show pa < bs.length; omega) (by show ta < bs.length; omega)
    refine hnx _ ⟨hp.mono (by omega), ps ++ [(pa, ta, 1 + x)], apL bs (pa, ta, -(1 + x)), by rw [List.map_append]; rfl, rfl, by simp [pl], al, ?_, fun t ht => ?_, fun p hp => ?_, fun p hp => ?_⟩
    · have s1 := sum_set (cs := bs) (a := pa) (x := bs.getD pa 0 - (1 + x)) (by omega)
      have s2 := sum_set (cs := bs.set pa (bs.getD pa 0 - (1 + x))) (a := ta) (x := (bs.set pa (bs.getD pa 0 - (1 + x))).getD ta 0 + (1 + x)) (by rw [List.length_set]; omega)
      rw [← ap, s2, s1]
      omega
    · rcases List.mem_append.mp ht with q | q
      · exact pok t q
      · rw [List.mem_singleton.mp q]
        exact ⟨by show pa < many; omega, t1, t2, by show 0 < 1 + x; omega⟩
    · have := beq p hp
      rw [ag, eff_snoc]
      dsimp only
      split <;> split <;> omega
    · have := bbd p hp
      rw [ag]
      split <;> split <;> omega
  · obtain ⟨a1, a2, a3⟩ := st
    obtain ⟨hp, ps, bs, e1, e2, pl, bl, b0, pok, beq, bbd⟩ := hi
    dsimp only at hp e1 e2 ⊢
    subst e1
    subst e2
    have bd : ∀ b ∈ bs, -(10 ^ 14) ≤ b ∧ b ≤ 10 ^ 14 := fun b hb => by
      obtain ⟨i, hi, rfl⟩ := List.mem_iff_getElem.mp hb
      have := bbd i (by omega)
      rw [List.getD_eq_getElem?_getD, List.getElem?_eq_getElem hi, Option.getD_some] at this
      omega
    exact h bs ps a1 bl ⟨by omega, b0, fun b hb => by have := bd b hb; omega⟩ bd ⟨by rw [bl]; exact pok, by rw [bl]; exact beq⟩ (by omega) (hp.mono (by omega))
theorem full_lots {bs : List Int} (ok : BalOk bs) (h : 1 ≤ bs.length) : Lots bs (2 ^ bs.length - 1) 1 := by
  have hp : 2 ≤ 2 ^ bs.length := by
    have : 2 ^ 1 ≤ 2 ^ bs.length := Nat.pow_le_pow_right (by decide) h
    omega
  refine .more (Sb.refl _) (by omega) ?_ (.zero _)
  rw [← sums_sv bs _ (by omega), ← sumM_eq bs _ (by omega)]
  have e : plN (2 ^ bs.length - 1) bs.length = List.range bs.length := by
    unfold plN
    rw [List.filter_eq_self]
    intro p hp
    rw [full_bit]
    exact decide_eq_true (List.mem_range.mp hp)
  rw [e]
  have e2 : (List.range bs.length).map (fun p => bs.getD p 0) = bs := by
    refine List.ext_getElem (by simp) fun i h1 h2 => ?_
    rw [List.getElem_map, List.getElem_range, List.getD_eq_getElem?_getD, List.getElem?_eq_getElem h2, Option.getD_some]
  rw [e2]
  exact ok.2.1
theorem cut_fromN {xs : List PyData} {k : Nat} : DL.cutD xs (some (k : Int)) none = xs.drop k := by
  unfold DL.cutD
  rw [HT.sIx_none, HT.sIx_nat]
  rcases Nat.le_total k xs.length with h | h
  · rw [Nat.min_eq_left h, List.take_of_length_le (by rw [List.length_drop]; omega)]
  · rw [Nat.min_eq_right h, List.drop_of_length_le h, List.drop_of_length_le (Nat.le_refl _)]
    simp
theorem right_q {n : Int} {xs : List PyData} {bs : List Int} {ps : List Pay} (ok : BalOk bs) (hps : PaysOk bs ps) (hl : ps.length ≤ 100) (hp : BagOk n xs) (hn : n ≤ 10 ^ 4) (K : PyData → List PyData → Prop) (h : ∀ xs', BagOk (n + 1) xs' → K (.bool true) xs') : q_law_right xs (.tuple (bs.map .int)) (.tuple (ps.map payD)) K := by
  unfold q_law_right
  refine are_balances_q ok _ ?_
  walk_at "q"
  refine settles_q ok hl hps _ ?_
  walk_at "q"
  refine fewest_q ok _ fun ls qs hls hql hqs => ?_
  refine lots_table_q ok _ fun vs hv => ?_
  have le := few_le hls hql hps
  walk_at "q"
  refine tO_n (by omega) ?_
  refine settles_q ok (by omega) hqs _ ?_
  walk_at "q"
  have hvl : (zI vs).length = 2 ^ bs.length := by rw [zI_len, hv.1]
  have v0 : 0 ≤ (zI vs).getD 0 0 := by rw [zI_get]; omega
  refine table_says_q ok _ _ ?_
  have lst := few_count hv hls
  have nn : ¬ ((zI vs).getD 0 0 < 0 ∨ okT bs (zI vs) = false) := by
    rw [okT_tab hv]
    rintro (q | q)
    · omega
    · cases q
  rw [saysD_ok hvl, if_neg nn, lst]
  have l1 : 1 ≤ bs.length → 1 ≤ ls.length := fun z => hls.top.2 1 (full_lots ok z)
  walk_at "q"
  rw [decide_eq_true (show (bs.length : Int) - (ls.length : Int) = (qs.length : Int) by omega), decide_eq_false (show ¬ ((if (bs.length : Int) - 1 > 0 then (bs.length : Int) - 1 else 0) < (qs.length : Int)) by split <;> omega)]
  refine bI_f rfl ?_
  have hp0 : 0 < 2 ^ bs.length := Nat.pow_pos (by decide)
  have hp8 := pow_le ok.1
  refine bag_take_q hp (by omega) (by omega) (by omega) _ fun a xs a0 a1 hp => ?_
  obtain ⟨a, rfl⟩ : ∃ k : Nat, a = (k : Int) := ⟨a.toNat, by omega⟩
  rw [q_so, cut_fromN]
  rw [← List.map_drop]
  refine qLc_all1B (xs := (zI vs).drop a) (D := PyData.int) (fun v => .int (v + 2)) (by rw [List.length_drop]; omega) (fun v hv sk yd hy => ?_) ?_
  · unfold qb_law_right_1
    walk_at "q"
    exact hy
  refine qLc_all1B (xs := zI vs) (D := PyData.int) (fun v => .int (v + 1)) (by omega) (fun v hv sk yd hy => ?_) ?_
  · unfold qb_law_right_2
    walk_at "q"
    exact hy
  rw [q_so, cut_takeN]
  refine ⟨by simp only [List.length_take, List.length_map, List.length_drop]; omega, ?_⟩
  have says : ∀ ws : List Int, ws.length = 2 ^ bs.length → ∀ (nx bk : (List PyData × PyData × PyData) → Unit → Prop), nx (xs, .tuple (bs.map .int), .tuple (qs.map payD)) () → qb_law_right_3 K (.tuple (ws.map .int)) (xs, .tuple (bs.map .int), .tuple (qs.map payD)) () nx bk := fun ws hw nx bk hn => by
    unfold qb_law_right_3
    refine table_says_q ok _ _ ?_
    rw [saysD_ok hw]
    by_cases c : ws.getD 0 0 < 0 ∨ okT bs ws = false
    · rw [if_pos c]
      walk_at "q"
      exact hn
    · rw [if_neg c]
      have ot : okT bs ws = true := by
        cases z : okT bs ws with
        | true => rfl
        | false => exact absurd (.inr z) c
      have := above_lots hw (by omega) ot (2 ^ bs.length - 1) (by omega) _ hls.top.1
      rw [← hw] at this
      walk_at "q"
      rw [decide_eq_false (by omega)]
      exact hn
  have e1 : ((zI vs).map fun v => PyData.int (v + 1)) = ((zI vs).map fun v => v + 1).map .int := by rw [List.map_map]; rfl
  have e2 : ((zI vs).map PyData.int).take a ++ ((zI vs).drop a).map (fun v => PyData.int (v + 2)) = ((zI vs).take a ++ ((zI vs).drop a).map fun v => v + 2).map .int := by rw [List.map_append, List.map_map, List.map_take]; rfl
  rw [e1, e2]
  refine qFor_ind (fun _ _ => True) trivial (fun j d s nx hd _ hnx => ?_) fun s _ => h _ hp
  match j, hd with
  | 0, hd =>
    cases hd
    exact says _ (by rw [List.length_map]; exact hvl) _ _ (hnx _ trivial)
  | 1, hd =>
    cases hd
    exact says _ (by rw [List.length_append, List.length_take, List.length_map, List.length_drop]; omega) _ _ (hnx _ trivial)
  | j + 2, hd => simp at hd
def shP (m : Nat) (t : Pay) : Pay := (t.1 + m, t.2.1 + m, t.2.2)
theorem eff_shift {m : Nat} (ps : List Pay) (p : Nat) : eff (ps.map (shP m)) (p + m) = eff ps p := by
  unfold eff
  rw [List.map_map]
  congr 1
  refine List.map_congr_left fun t _ => ?_
  show ((if t.1 + m = p + m then t.2.2 else 0) - (if t.2.1 + m = p + m then t.2.2 else 0)) = _
  have h1 : t.1 + m = p + m ↔ t.1 = p := by omega
  have h2 : t.2.1 + m = p + m ↔ t.2.1 = p := by omega
  simp only [h1, h2]
theorem eff_low {m : Nat} : ∀ (ps : List Pay) {p : Nat}, p < m → eff (ps.map (shP m)) p = 0
  | [], _, _ => rfl
  | t :: ps, p, h => by
    rw [List.map_cons, eff_cons, eff_low ps h]
    have h1 : (shP m t).1 ≠ p := by unfold shP; dsimp only; omega
    have h2 : (shP m t).2.1 ≠ p := by unfold shP; dsimp only; omega
    rw [if_neg h1, if_neg h2]
    rfl
theorem eff_high {n : Nat} : ∀ (ps : List Pay), (∀ t ∈ ps, t.1 < n ∧ t.2.1 < n) → ∀ {p : Nat}, n ≤ p → eff ps p = 0
  | [], _, _, _ => rfl
  | t :: ps, h, p, hp => by
    obtain ⟨h1, h2⟩ := h t List.mem_cons_self
    rw [eff_cons, eff_high ps (fun u hu => h u (List.mem_cons_of_mem _ hu)) hp, if_neg (by omega), if_neg (by omega)]
    rfl
theorem pays_both {b1 b2 : List Int} {p1 p2 : List Pay} (h1 : PaysOk b1 p1) (h2 : PaysOk b2 p2) : PaysOk (b1 ++ b2) (p1 ++ p2.map (shP b1.length)) := by
  refine ⟨fun t ht => ?_, fun p hp => ?_⟩
  · rw [List.length_append]
    rcases List.mem_append.mp ht with q | q
    · obtain ⟨a, b, c, d⟩ := h1.1 t q
      exact ⟨by omega, by omega, c, d⟩
    · obtain ⟨u, hu, rfl⟩ := List.mem_map.mp q
      obtain ⟨a, b, c, d⟩ := h2.1 u hu
      unfold shP
      exact ⟨by dsimp only; omega, by dsimp only; omega, by dsimp only; omega, d⟩
  · rw [List.length_append] at hp
    rw [eff_app]
    rcases Nat.lt_or_ge p b1.length with q | q
    · have := h1.2 p q
      rw [eff_low p2 q, getD_l q]
      omega
    · obtain ⟨r, rfl⟩ : ∃ r, p = r + b1.length := ⟨p - b1.length, by omega⟩
      have := h2.2 r (by omega)
      rw [eff_high p1 (fun t ht => ⟨(h1.1 t ht).1, (h1.1 t ht).2.1⟩) q, eff_shift, getD_r q, show r + b1.length - b1.length = r by omega]
      omega
theorem the_law (ns : List Int) (hn : ns.length ≤ 63) (K : PyData → Prop) (hK : K (.bool true)) : q_law (.list (ns.map .int)) K := by
  unfold q_law
  walk_at "q"
  refine ⟨by (repeat' split) <;> omega, ?_⟩
  refine qFor_range (fun _ _ => True) trivial (fun k s nx hk _ hnx => ?_) fun _ _ => hK
  have hk : k ≤ 100 := by
    refine Nat.le_trans (Nat.le_of_lt hk) ?_
    (repeat' split) <;> omega
  unfold qb_law_1
  refine bag_pot_q ns _ (by omega) (by omega) _ fun xs hp => ?_
  refine bag_take_q hp (by omega) (by omega) (by omega) _ fun a xs a0 a1 hp => ?_
  obtain ⟨a, rfl⟩ : ∃ k : Nat, a = (k : Int) := ⟨a.toNat, by omega⟩
  rw [q_add, show (1 : Int) + (a : Int) = ((1 + a : Nat) : Int) by omega]
  refine drawn_q (by omega) hp (by omega) _ fun b1 p1 xs l1 ok1 bd1 hp1 pl1 hp => ?_
  walk_at "j"
  refine bag_take_q hp (by omega) (by omega) (by omega) _ fun b xs x0 x1 hp => ?_
  obtain ⟨b, rfl⟩ : ∃ k : Nat, b = (k : Int) := ⟨b.toNat, by omega⟩
  refine drawn_q (by omega) hp (by omega) _ fun b2 p2 xs l2 ok2 bd2 hp2 pl2 hp => ?_
  walk_at "j"
  refine qLc_all1B (xs := p2) (D := payD) (fun t => payD (shP b1.length t)) (by omega) (fun t ht sk yd hy => ?_) ?_
  · unfold qb_law_2 payD
    walk_at "q"
    unfold payD shP at hy
    rw [l1] at hy
    dsimp only at hy
    rw [show ((t.1 + (1 + a) : Nat) : Int) = (t.1 : Int) + ((1 + a : Nat) : Int) by omega, show ((t.2.1 + (1 + a) : Nat) : Int) = (t.2.1 : Int) + ((1 + a : Nat) : Int) by omega] at hy
    exact hy
  walk_at "j"
  have ok3 : BalOk (b1 ++ b2) := ⟨by rw [List.length_append]; omega, by rw [List.sum_append, ok1.2.1, ok2.2.1]; rfl, fun y hy => by
    rcases List.mem_append.mp hy with q | q
    · exact ok1.2.2 y q
    · exact ok2.2.2 y q⟩
  have hp3 := pays_both hp1 hp2
  refine right_q ok1 hp1 (by omega) hp (by omega) _ fun xs hp => ?_
  walk_at "j"
  refine (show ∀ {u : (Bool → List PyData → Prop) → Prop} {L : Bool → List PyData → Prop}, u L → jn u L from fun p => p) ?_
  refine right_q ok2 hp2 (by omega) hp (by omega) _ fun xs hp => ?_
  rw [q_bT]
  refine bI_f rfl ?_
  refine ⟨by omega, by omega, ?_⟩
  have e1 : b1.map PyData.int ++ b2.map PyData.int = (b1 ++ b2).map .int := by rw [List.map_append]
  have e2 : p1.map payD ++ p2.map (fun t => payD (shP b1.length t)) = (p1 ++ p2.map (shP b1.length)).map payD := by rw [List.map_append, List.map_map]; rfl
  rw [e1, e2]
  refine right_q ok3 hp3 (by rw [List.length_append, List.length_map]; omega) hp (by omega) _ fun xs hp => ?_
  rw [q_bT]
  refine bN_t ?_
  refine fewest_q ok1 _ fun ls1 q1 hl1 hq1 ho1 => ?_
  walk_at "q"
  refine fewest_q ok2 _ fun ls2 q2 hl2 hq2 ho2 => ?_
  walk_at "q"
  refine ⟨by omega, ?_⟩
  refine fewest_q ok3 _ fun ls3 q3 hl3 hq3 ho3 => ?_
  have le := few_le hl3 hq3 (pays_both ho1 ho2)
  rw [List.length_append, List.length_map] at le
  walk_at "q"
  rw [decide_eq_false (by omega)]
  exact hnx _ trivial
section
variable {P : Program} {w : World} {K : PySem.W.Frag} {mg : Str → Option Value} {base : Heap} [SysB base] {Tb : List (Addr × Str)}
def kk_is_whole : RT → (PyData → Prop) := fun R v => R (.dat v) []
def S_is_whole : DSp := fun as Q => match as with
  | [.dat x0] => q_is_whole x0 (kk_is_whole Q)
  | _ => False
theorem len_is_whole (as : List SD) (Q : SD → List SD → Prop) (h : S_is_whole as Q) : as.length = 1 := by
  unfold S_is_whole at h
  split at h
  · rfl
  · exact h.elim
theorem cels_is_whole : CelsIn 0 S_is_whole := by
  intro as Q h i p xs e
  unfold S_is_whole at h
  split at h
  · exact absurd e (no_cel (ds := [_]) i p xs)
  · exact h.elim
def N_is_whole : List Str := ["thing"]
theorem sc_is_whole : FnScope N_is_whole ["thing"] (defScope (top 1)) := ⟨rfl, rfl, rfl, by decide +kernel, rfl, by decide +kernel, by decide +kernel⟩
theorem fg_is_whole (T : Tp K mg)  {fd : FuncData} (Fn : Fun K "is_whole" "is_whole" (top 1) (He.ga K "is_whole") fd) : FnG P w K mg base Tb 1 (He.ga K "is_whole") fd ["thing"] S_is_whole := by
  refine dfn 0 Fn sc_is_whole len_is_whole cels_is_whole fun cdv A outer s H hr hA => ⟨_, (sone (sret (m := 0) (dx (dandV (disi "int" "int" (m_isinstance T) (m_int T) (by decide +kernel) (by decide +kernel) (dv 0)) (done (dnotV (disi "bool" "bool" (m_isinstance T) (m_bool T) (by decide +kernel) (by decide +kernel) (dv 0)))))))), fun as Q h => ?_⟩
  unfold S_is_whole at h
  split at h
  · unfold q_is_whole at h
    rename_i x0
    refine at_env (b := [.dat x0]) rfl ?_
    exact Eq.mp (by kernel_rfl) h
  · exact h.elim
theorem ok_is_whole (T : Tp K mg)  : Dn P w K mg base Tb "is_whole" 1 ["thing"] S_is_whole := by
  obtain ⟨kV, doc, pm, an, cdv, ct, Fn⟩ := T.fun_ "is_whole" (top 1) 0 36
  exact ⟨⟨_, fg_is_whole T  Fn, Fn.binds (ps := ["thing"]) fun _ _ _ _ _ _ us hl => match us, hl with | [_], _ => rfl⟩, T.glo "is_whole" 17, T.keep "is_whole" 36⟩
def kk_are_balances : RT → (PyData → Prop) := fun R v => R (.dat v) []
def em_are_balances_1 (i : PyData) (s : Unit) : List SD := [.dat i, .un]
def de_are_balances_1 : List SD → Option ((PyData) × (Unit))
  | [.dat x0, .un] => some (x0, ())
  | _ => none
theorem hde_are_balances_1 : ∀ env i s, de_are_balances_1 env = some (i, s) → env = em_are_balances_1 i s := by
  intro env i s h
  unfold de_are_balances_1 at h
  split at h
  · cases h; rfl
  · cases h
def S_are_balances : DSp := fun as Q => match as with
  | [.dat x0] => q_are_balances x0 (kk_are_balances Q)
  | _ => False
theorem len_are_balances (as : List SD) (Q : SD → List SD → Prop) (h : S_are_balances as Q) : as.length = 1 := by
  unfold S_are_balances at h
  split at h
  · rfl
  · exact h.elim
theorem cels_are_balances : CelsIn 0 S_are_balances := by
  intro as Q h i p xs e
  unfold S_are_balances at h
  split at h
  · exact absurd e (no_cel (ds := [_]) i p xs)
  · exact h.elim
def N_are_balances : List Str := ["thing", "one"]
theorem sc_are_balances : FnScope N_are_balances ["thing"] (defScope (top 9)) := ⟨rfl, rfl, rfl, by decide +kernel, rfl, by decide +kernel, by decide +kernel⟩
theorem fg_are_balances (T : Tp K mg) (D_is_whole : Dn P w K mg base Tb "is_whole" 1 ["thing"] S_is_whole) {fd : FuncData} (Fn : Fun K "are_balances" "are_balances" (top 9) (He.ga K "are_balances") fd) : FnG P w K mg base Tb 2 (He.ga K "are_balances") fd ["thing"] S_are_balances := by
  refine dfn 0 Fn sc_are_balances len_are_balances cels_are_balances fun cdv A outer s H hr hA => ⟨_, (scons (sif (tor (tnot (dtest (disi "tuple" "tuple" (m_isinstance T) (m_tuple T) (by decide +kernel) (by decide +kernel) (dv 0)))) (tor1 (dcmpT op_gt opr_gt (dlen (m_len T) (acons (dv 0) anil)) (dnum (c_MOST_PLACES T)) (nomark _)))).pt (sone (sret (m := 0) (dx db))) snil) (sone (sret (m := 0) (dx (dandV (dall (m_all T) rfl (acons (dfrz (dlc (dec := de_are_balances_1) (emb := em_are_balances_1) (qb := qb_are_balances_1) [("one", 1)] (.one 1) hde_are_balances_1 rfl sc_are_balances.nd (iseq (dv 0)) (blkOk_by (own := [("one", 1)]) (N := N_are_balances) (sc := defScope (top 9)) (by decide +kernel)) (fun _ _ _ _ _ => pg_name (i := 1) sc_are_balances.nd rfl (Or.inl rfl)) (fun _ _ _ _ _ => tyes) (fun _ _ _ _ _ => (dandV (dfrz (dcn D_is_whole (hr.mono (by decide)) hA (acons (dv 1) anil))) (done (dchain op_le op_le opr_le opr_le (dneg (dnum (c_MOST T))) (dv 1) (dnum (c_MOST T)))))) (fun d i s sk yd h => Eq.mp (by kernel_rfl) h))) anil)) (done (dcmp (op_eqE hr.units) opd_eq (dsum (m_sum T) rfl (acons (dv 0) anil)) di (nomark _)))))))), fun as Q h => ?_⟩
  unfold S_are_balances at h
  split at h
  · unfold q_are_balances at h
    rename_i x0
    refine at_env (b := [.dat x0, .un]) rfl ?_
    exact Eq.mp (by kernel_rfl) h
  · exact h.elim
theorem ok_are_balances (T : Tp K mg) (D_is_whole : Dn P w K mg base Tb "is_whole" 1 ["thing"] S_is_whole) : Dn P w K mg base Tb "are_balances" 2 ["thing"] S_are_balances := by
  obtain ⟨kV, doc, pm, an, cdv, ct, Fn⟩ := T.fun_ "are_balances" (top 9) 1 37
  exact ⟨⟨_, fg_are_balances T D_is_whole Fn, Fn.binds (ps := ["thing"]) fun _ _ _ _ _ _ us hl => match us, hl with | [_], _ => rfl⟩, T.glo "are_balances" 18, T.keep "are_balances" 37⟩
def kk_need_balances : RT → (PyData → Prop) := fun R v => R (.dat v) []
def S_need_balances : DSp := fun as Q => match as with
  | [.dat x0] => q_need_balances x0 (kk_need_balances Q)
  | _ => False
theorem len_need_balances (as : List SD) (Q : SD → List SD → Prop) (h : S_need_balances as Q) : as.length = 1 := by
  unfold S_need_balances at h
  split at h
  · rfl
  · exact h.elim
theorem cels_need_balances : CelsIn 0 S_need_balances := by
  intro as Q h i p xs e
  unfold S_need_balances at h
  split at h
  · exact absurd e (no_cel (ds := [_]) i p xs)
  · exact h.elim
def N_need_balances : List Str := ["thing"]
theorem sc_need_balances : FnScope N_need_balances ["thing"] (defScope (top 10)) := ⟨rfl, rfl, rfl, by decide +kernel, rfl, by decide +kernel, by decide +kernel⟩
theorem fg_need_balances (T : Tp K mg) (D_are_balances : Dn P w K mg base Tb "are_balances" 2 ["thing"] S_are_balances) {fd : FuncData} (Fn : Fun K "need_balances" "need_balances" (top 10) (He.ga K "need_balances") fd) : FnG P w K mg base Tb 3 (He.ga K "need_balances") fd ["thing"] S_need_balances := by
  refine dfn 0 Fn sc_need_balances len_need_balances cels_need_balances fun cdv A outer s H hr hA => ⟨_, (sone (sif (tnot (dtest (dfrz (dcn D_are_balances (hr.mono (by decide)) hA (acons (dv 0) anil))))) (sone snever) snil)), fun as Q h => ?_⟩
  unfold S_need_balances at h
  split at h
  · unfold q_need_balances at h
    rename_i x0
    refine at_env (b := [.dat x0]) rfl ?_
    exact Eq.mp (by kernel_rfl) h
  · exact h.elim
theorem ok_need_balances (T : Tp K mg) (D_are_balances : Dn P w K mg base Tb "are_balances" 2 ["thing"] S_are_balances) : Dn P w K mg base Tb "need_balances" 3 ["thing"] S_need_balances := by
  obtain ⟨kV, doc, pm, an, cdv, ct, Fn⟩ := T.fun_ "need_balances" (top 10) 2 38
  exact ⟨⟨_, fg_need_balances T D_are_balances Fn, Fn.binds (ps := ["thing"]) fun _ _ _ _ _ _ us hl => match us, hl with | [_], _ => rfl⟩, T.glo "need_balances" 19, T.keep "need_balances" 38⟩
def kk_is_payment : RT → (PyData → Prop) := fun R v => R (.dat v) []
def em_is_payment_1 (i : PyData × PyData) (s : Unit) : List SD := [.dat i.1, .dat i.2, .un]
def de_is_payment_1 : List SD → Option ((PyData × PyData) × (Unit))
  | [.dat x0, .dat x1, .un] => some ((x0, x1), ())
  | _ => none
theorem hde_is_payment_1 : ∀ env i s, de_is_payment_1 env = some (i, s) → env = em_is_payment_1 i s := by
  intro env i s h
  unfold de_is_payment_1 at h
  split at h
  · cases h; rfl
  · cases h
def S_is_payment : DSp := fun as Q => match as with
  | [.dat x0, .dat x1] => q_is_payment x0 x1 (kk_is_payment Q)
  | _ => False
theorem len_is_payment (as : List SD) (Q : SD → List SD → Prop) (h : S_is_payment as Q) : as.length = 2 := by
  unfold S_is_payment at h
  split at h
  · rfl
  · exact h.elim
theorem cels_is_payment : CelsIn 0 S_is_payment := by
  intro as Q h i p xs e
  unfold S_is_payment at h
  split at h
  · exact absurd e (no_cel (ds := [_, _]) i p xs)
  · exact h.elim
def N_is_payment : List Str := ["many", "thing", "one"]
theorem sc_is_payment : FnScope N_is_payment ["many", "thing"] (defScope (top 11)) := ⟨rfl, rfl, rfl, by decide +kernel, rfl, by decide +kernel, by decide +kernel⟩
theorem fg_is_payment (T : Tp K mg) (D_is_whole : Dn P w K mg base Tb "is_whole" 1 ["thing"] S_is_whole) {fd : FuncData} (Fn : Fun K "is_payment" "is_payment" (top 11) (He.ga K "is_payment") fd) : FnG P w K mg base Tb 2 (He.ga K "is_payment") fd ["many", "thing"] S_is_payment := by
  refine dfn 0 Fn sc_is_payment len_is_payment cels_is_payment fun cdv A outer s H hr hA => ⟨_, (scons (sif (tor (tnot (dtest (disi "tuple" "tuple" (m_isinstance T) (m_tuple T) (by decide +kernel) (by decide +kernel) (dv 1)))) (tor (dcmpT (op_neE hr.units) opd_ne (dlen (m_len T) (acons (dv 1) anil)) di (nomark _)) (tor1 (tnot (dtest (dall (m_all T) rfl (acons (dfrz (dlc (dec := de_is_payment_1) (emb := em_is_payment_1) (qb := qb_is_payment_1) [("one", 2)] (.one 2) hde_is_payment_1 rfl sc_is_payment.nd (iseq (dv 1)) (blkOk_by (own := [("one", 2)]) (N := N_is_payment) (sc := defScope (top 11)) (by decide +kernel)) (fun _ _ _ _ _ => pg_name (i := 2) sc_is_payment.nd rfl (Or.inl rfl)) (fun _ _ _ _ _ => tyes) (fun _ _ _ _ _ => (dfrz (dcn D_is_whole (hr.mono (by decide)) hA (acons (dv 2) anil)))) (fun d i s sk yd h => Eq.mp (by kernel_rfl) h))) anil))))))).pt (sone (sret (m := 0) (dx db))) snil) (sone (sret (m := 0) (dx (dandV (dchain op_le op_ltA opr_le opr_ltA di (dixP (dv 1) di) (dv 0)) (dandV (dchain op_le op_ltA opr_le opr_ltA di (dixP (dv 1) di) (dv 0)) (dandV (dcmp (op_neE hr.units) opd_ne (dixP (dv 1) di) (dixP (dv 1) di) (nomark _)) (done (dcmp op_gt opr_gt (dixP (dv 1) di) di (nomark _)))))))))), fun as Q h => ?_⟩
  unfold S_is_payment at h
  split at h
  · unfold q_is_payment at h
    rename_i x0 x1
    refine at_env (b := [.dat x0, .dat x1, .un]) rfl ?_
    exact Eq.mp (by kernel_rfl) h
  · exact h.elim
theorem ok_is_payment (T : Tp K mg) (D_is_whole : Dn P w K mg base Tb "is_whole" 1 ["thing"] S_is_whole) : Dn P w K mg base Tb "is_payment" 2 ["many", "thing"] S_is_payment := by
  obtain ⟨kV, doc, pm, an, cdv, ct, Fn⟩ := T.fun_ "is_payment" (top 11) 3 39
  exact ⟨⟨_, fg_is_payment T D_is_whole Fn, Fn.binds (ps := ["many", "thing"]) fun _ _ _ _ _ _ us hl => match us, hl with | [_, _], _ => rfl⟩, T.glo "is_payment" 20, T.keep "is_payment" 39⟩
def kk_settles : RT → (PyData → Prop) := fun R v => R (.dat v) []
def em_settles_1 (i : PyData × PyData) (s : Unit) : List SD := [.dat i.1, .dat i.2, .un, .un, .un, .un, .un]
def de_settles_1 : List SD → Option ((PyData × PyData) × (Unit))
  | [.dat x0, .dat x1, .un, .un, .un, .un, .un] => some ((x0, x1), ())
  | _ => none
theorem hde_settles_1 : ∀ env i s, de_settles_1 env = some (i, s) → env = em_settles_1 i s := by
  intro env i s h
  unfold de_settles_1 at h
  split at h
  · cases h; rfl
  · cases h
def em_settles_2 (i : Unit) (s : List PyData) : List SD := [.un, .un, .cel false s, .un, .un, .un, .un]
def de_settles_2 : List SD → Option ((Unit) × (List PyData))
  | [.un, .un, .cel false x2, .un, .un, .un, .un] => some ((), x2)
  | _ => none
theorem hde_settles_2 : ∀ env i s, de_settles_2 env = some (i, s) → env = em_settles_2 i s := by
  intro env i s h
  unfold de_settles_2 at h
  split at h
  · cases h; rfl
  · cases h
def S_settles : DSp := fun as Q => match as with
  | [.dat x0, .dat x1] => q_settles x0 x1 (kk_settles Q)
  | _ => False
theorem len_settles (as : List SD) (Q : SD → List SD → Prop) (h : S_settles as Q) : as.length = 2 := by
  unfold S_settles at h
  split at h
  · rfl
  · exact h.elim
theorem cels_settles : CelsIn 0 S_settles := by
  intro as Q h i p xs e
  unfold S_settles at h
  split at h
  · exact absurd e (no_cel (ds := [_, _]) i p xs)
  · exact h.elim
def N_settles : List Str := ["balances", "thing", "left", "payer", "taker", "pence", "one"]
theorem sc_settles : FnScope N_settles ["balances", "thing"] (defScope (top 12)) := ⟨rfl, rfl, rfl, by decide +kernel, rfl, by decide +kernel, by decide +kernel⟩
theorem fg_settles (T : Tp K mg) (D_is_payment : Dn P w K mg base Tb "is_payment" 2 ["many", "thing"] S_is_payment) (D_need_balances : Dn P w K mg base Tb "need_balances" 3 ["thing"] S_need_balances) {fd : FuncData} (Fn : Fun K "settles" "settles" (top 12) (He.ga K "settles") fd) : FnG P w K mg base Tb 4 (He.ga K "settles") fd ["balances", "thing"] S_settles := by
  refine dfn 0 Fn sc_settles len_settles cels_settles fun cdv A outer s H hr hA => ⟨_, (scons (sexpr (dcn D_need_balances (hr.mono (by decide)) hA (acons (dv 0) anil))) (scons (sif (tor (tnot (dtest (disi "tuple" "tuple" (m_isinstance T) (m_tuple T) (by decide +kernel) (by decide +kernel) (dv 1)))) (tor1 (tnot (dtest (dall (m_all T) rfl (acons (dfrz (dlc (dec := de_settles_1) (emb := em_settles_1) (qb := qb_settles_1) [("one", 6)] (.one 6) hde_settles_1 rfl sc_settles.nd (iseq (dv 1)) (blkOk_by (own := [("one", 6)]) (N := N_settles) (sc := defScope (top 12)) (by decide +kernel)) (fun _ _ _ _ _ => pg_name (i := 6) sc_settles.nd rfl (Or.inl rfl)) (fun _ _ _ _ _ => tyes) (fun _ _ _ _ _ => (dfrz (dcn D_is_payment (hr.mono (by decide)) hA (acons (dlen (m_len T) (acons (dv 0) anil)) (acons (dv 6) anil))))) (fun d i s sk yd h => Eq.mp (by kernel_rfl) h))) anil)))))).pt (sone (sret (m := 0) (dx db))) snil) (scons (sset 2 sc_settles.nd (dlistOf (m_list T) (acons (dv 0) anil))) (ssforget [0] (scons (sforQ [1, 3, 4, 5] de_settles_2 em_settles_2 kk_settles qb_settles_2 hde_settles_2 PassesOwn.never rfl (iseq (dv 1)) (gtup (gl_cons gok_n (gl_cons gok_n (gl_cons gok_n gl_nil))) rfl (gcons (gn 3 sc_settles.nd) (gcons (gn 4 sc_settles.nd) (gcons (gn 5 sc_settles.nd) gnil)))) (scons (ssetC 2 (dadd (dixC 2 (dv 3)) (dv 5)) (dv 3)) (sone (ssetC 2 (dsub (dixC 2 (dv 4)) (dv 5)) (dv 4)))) (fun R d i s nx bk h => Eq.mp (by kernel_rfl) h)) (ssfreeze2 2 (sone (sret (m := 0) (dx (dnotV (danyI (m_any T) rfl (acons (dv 2) anil)))))))))))), fun as Q h => ?_⟩
  unfold S_settles at h
  split at h
  · unfold q_settles at h
    rename_i x0 x1
    refine at_env (b := [.dat x0, .dat x1, .un, .un, .un, .un, .un]) rfl ?_
    exact Eq.mp (by kernel_rfl) h
  · exact h.elim
theorem ok_settles (T : Tp K mg) (D_is_payment : Dn P w K mg base Tb "is_payment" 2 ["many", "thing"] S_is_payment) (D_need_balances : Dn P w K mg base Tb "need_balances" 3 ["thing"] S_need_balances) : Dn P w K mg base Tb "settles" 4 ["balances", "thing"] S_settles := by
  obtain ⟨kV, doc, pm, an, cdv, ct, Fn⟩ := T.fun_ "settles" (top 12) 4 40
  exact ⟨⟨_, fg_settles T D_is_payment D_need_balances Fn, Fn.binds (ps := ["balances", "thing"]) fun _ _ _ _ _ _ us hl => match us, hl with | [_, _], _ => rfl⟩, T.glo "settles" 21, T.keep "settles" 40⟩
def kk_places_of : RT → (PyData → Prop) := fun R v => R (.dat v) []
def em_places_of_1 (i : PyData × PyData) (s : Unit) : List SD := [.dat i.1, .dat i.2, .un]
def de_places_of_1 : List SD → Option ((PyData × PyData) × (Unit))
  | [.dat x0, .dat x1, .un] => some ((x0, x1), ())
  | _ => none
theorem hde_places_of_1 : ∀ env i s, de_places_of_1 env = some (i, s) → env = em_places_of_1 i s := by
  intro env i s h
  unfold de_places_of_1 at h
  split at h
  · cases h; rfl
  · cases h
def S_places_of : DSp := fun as Q => match as with
  | [.dat x0, .dat x1] => q_places_of x0 x1 (kk_places_of Q)
  | _ => False
theorem len_places_of (as : List SD) (Q : SD → List SD → Prop) (h : S_places_of as Q) : as.length = 2 := by
  unfold S_places_of at h
  split at h
  · rfl
  · exact h.elim
theorem cels_places_of : CelsIn 0 S_places_of := by
  intro as Q h i p xs e
  unfold S_places_of at h
  split at h
  · exact absurd e (no_cel (ds := [_, _]) i p xs)
  · exact h.elim
def N_places_of : List Str := ["number", "many", "place"]
theorem sc_places_of : FnScope N_places_of ["number", "many"] (defScope (top 13)) := ⟨rfl, rfl, rfl, by decide +kernel, rfl, by decide +kernel, by decide +kernel⟩
theorem fg_places_of (T : Tp K mg)  {fd : FuncData} (Fn : Fun K "places_of" "places_of" (top 13) (He.ga K "places_of") fd) : FnG P w K mg base Tb 1 (He.ga K "places_of") fd ["number", "many"] S_places_of := by
  refine dfn 0 Fn sc_places_of len_places_of cels_places_of fun cdv A outer s H hr hA => ⟨_, (sone (sret (m := 0) (dx (dfrz (dlc (dec := de_places_of_1) (emb := em_places_of_1) (qb := qb_places_of_1) [("place", 2)] (.one 2) hde_places_of_1 rfl sc_places_of.nd (irange1 (m_range T) (acons (dv 1) anil)) (blkOk_by (own := [("place", 2)]) (N := N_places_of) (sc := defScope (top 13)) (by decide +kernel)) (fun _ _ _ _ _ => pg_name (i := 2) sc_places_of.nd rfl (Or.inl rfl)) (fun _ _ _ _ _ => tif1 (dcmpT (op_eqE hr.units) opd_eq (dmod (ddiv (dv 0) (dixP (dtupK (ct_POWERS T)) (dv 2))) di) di (nomark _))) (fun _ _ _ _ _ => (dv 2)) (fun d i s sk yd h => Eq.mp (by kernel_rfl) h)))))), fun as Q h => ?_⟩
  unfold S_places_of at h
  split at h
  · unfold q_places_of at h
    rename_i x0 x1
    refine at_env (b := [.dat x0, .dat x1, .un]) rfl ?_
    exact Eq.mp (by kernel_rfl) h
  · exact h.elim
theorem ok_places_of (T : Tp K mg)  : Dn P w K mg base Tb "places_of" 1 ["number", "many"] S_places_of := by
  obtain ⟨kV, doc, pm, an, cdv, ct, Fn⟩ := T.fun_ "places_of" (top 13) 5 41
  exact ⟨⟨_, fg_places_of T  Fn, Fn.binds (ps := ["number", "many"]) fun _ _ _ _ _ _ us hl => match us, hl with | [_, _], _ => rfl⟩, T.glo "places_of" 22, T.keep "places_of" 41⟩
def kk_is_even : RT → (PyData → Prop) := fun R v => R (.dat v) []
def em_is_even_1 (i : PyData × PyData) (s : Unit) : List SD := [.dat i.1, .dat i.2, .un]
def de_is_even_1 : List SD → Option ((PyData × PyData) × (Unit))
  | [.dat x0, .dat x1, .un] => some ((x0, x1), ())
  | _ => none
theorem hde_is_even_1 : ∀ env i s, de_is_even_1 env = some (i, s) → env = em_is_even_1 i s := by
  intro env i s h
  unfold de_is_even_1 at h
  split at h
  · cases h; rfl
  · cases h
def S_is_even : DSp := fun as Q => match as with
  | [.dat x0, .dat x1] => q_is_even x0 x1 (kk_is_even Q)
  | _ => False
theorem len_is_even (as : List SD) (Q : SD → List SD → Prop) (h : S_is_even as Q) : as.length = 2 := by
  unfold S_is_even at h
  split at h
  · rfl
  · exact h.elim
theorem cels_is_even : CelsIn 0 S_is_even := by
  intro as Q h i p xs e
  unfold S_is_even at h
  split at h
  · exact absurd e (no_cel (ds := [_, _]) i p xs)
  · exact h.elim
def N_is_even : List Str := ["balances", "number", "place"]
theorem sc_is_even : FnScope N_is_even ["balances", "number"] (defScope (top 14)) := ⟨rfl, rfl, rfl, by decide +kernel, rfl, by decide +kernel, by decide +kernel⟩
theorem fg_is_even (T : Tp K mg) (D_places_of : Dn P w K mg base Tb "places_of" 1 ["number", "many"] S_places_of) {fd : FuncData} (Fn : Fun K "is_even" "is_even" (top 14) (He.ga K "is_even") fd) : FnG P w K mg base Tb 2 (He.ga K "is_even") fd ["balances", "number"] S_is_even := by
  refine dfn 0 Fn sc_is_even len_is_even cels_is_even fun cdv A outer s H hr hA => ⟨_, (sone (sret (m := 0) (dx (dcmp (op_eqE hr.units) opd_eq (dsum (m_sum T) rfl (acons (dfrz (dlc (dec := de_is_even_1) (emb := em_is_even_1) (qb := qb_is_even_1) [("place", 2)] (.one 2) hde_is_even_1 rfl sc_is_even.nd (iseq (dfrz (dcn D_places_of (hr.mono (by decide)) hA (acons (dv 1) (acons (dlen (m_len T) (acons (dv 0) anil)) anil))))) (blkOk_by (own := [("place", 2)]) (N := N_is_even) (sc := defScope (top 14)) (by decide +kernel)) (fun _ _ _ _ _ => pg_name (i := 2) sc_is_even.nd rfl (Or.inl rfl)) (fun _ _ _ _ _ => tyes) (fun _ _ _ _ _ => (dixP (dv 0) (dv 2))) (fun d i s sk yd h => Eq.mp (by kernel_rfl) h))) anil)) di (nomark _))))), fun as Q h => ?_⟩
  unfold S_is_even at h
  split at h
  · unfold q_is_even at h
    rename_i x0 x1
    refine at_env (b := [.dat x0, .dat x1, .un]) rfl ?_
    exact Eq.mp (by kernel_rfl) h
  · exact h.elim
theorem ok_is_even (T : Tp K mg) (D_places_of : Dn P w K mg base Tb "places_of" 1 ["number", "many"] S_places_of) : Dn P w K mg base Tb "is_even" 2 ["balances", "number"] S_is_even := by
  obtain ⟨kV, doc, pm, an, cdv, ct, Fn⟩ := T.fun_ "is_even" (top 14) 6 42
  exact ⟨⟨_, fg_is_even T D_places_of Fn, Fn.binds (ps := ["balances", "number"]) fun _ _ _ _ _ _ us hl => match us, hl with | [_, _], _ => rfl⟩, T.glo "is_even" 23, T.keep "is_even" 42⟩
def kk_table_of : RT → (PyData → Prop) := fun R v => R (.dat v) []
def em_table_of_1 (i : PyData) (s : List PyData) : List SD := [.dat i, .cel false s, .un, .un, .un]
def de_table_of_1 : List SD → Option ((PyData) × (List PyData))
  | [.dat x0, .cel false x1, .un, .un, .un] => some (x0, x1)
  | _ => none
theorem hde_table_of_1 : ∀ env i s, de_table_of_1 env = some (i, s) → env = em_table_of_1 i s := by
  intro env i s h
  unfold de_table_of_1 at h
  split at h
  · cases h; rfl
  · cases h
def em_table_of_2 (i : PyData × List PyData × PyData) (s : Unit) : List SD := [.dat i.1, .cel false i.2.1, .dat i.2.2, .un, .un]
def de_table_of_2 : List SD → Option ((PyData × List PyData × PyData) × (Unit))
  | [.dat x0, .cel false x1, .dat x2, .un, .un] => some ((x0, x1, x2), ())
  | _ => none
theorem hde_table_of_2 : ∀ env i s, de_table_of_2 env = some (i, s) → env = em_table_of_2 i s := by
  intro env i s h
  unfold de_table_of_2 at h
  split at h
  · cases h; rfl
  · cases h
def S_table_of : DSp := fun as Q => match as with
  | [.dat x0] => q_table_of x0 (kk_table_of Q)
  | _ => False
theorem len_table_of (as : List SD) (Q : SD → List SD → Prop) (h : S_table_of as Q) : as.length = 1 := by
  unfold S_table_of at h
  split at h
  · rfl
  · exact h.elim
theorem cels_table_of : CelsIn 0 S_table_of := by
  intro as Q h i p xs e
  unfold S_table_of at h
  split at h
  · exact absurd e (no_cel (ds := [_]) i p xs)
  · exact h.elim
def N_table_of : List Str := ["balances", "found", "number", "beneath", "place"]
theorem sc_table_of : FnScope N_table_of ["balances"] (defScope (top 15)) := ⟨rfl, rfl, rfl, by decide +kernel, rfl, by decide +kernel, by decide +kernel⟩
theorem fg_table_of (T : Tp K mg) (D_is_even : Dn P w K mg base Tb "is_even" 2 ["balances", "number"] S_is_even) (D_places_of : Dn P w K mg base Tb "places_of" 1 ["number", "many"] S_places_of) {fd : FuncData} (Fn : Fun K "table_of" "table_of" (top 15) (He.ga K "table_of") fd) : FnG P w K mg base Tb 3 (He.ga K "table_of") fd ["balances"] S_table_of := by
  refine dfn 0 Fn sc_table_of len_table_of cels_table_of fun cdv A outer s H hr hA => ⟨_, (scons (sset 1 sc_table_of.nd (dlst (acons di anil))) (scons (sforQ [2, 3] de_table_of_1 em_table_of_1 kk_table_of qb_table_of_1 hde_table_of_1 PassesOwn.never rfl (irange2 (m_range T) (acons di (acons (dixP (dtupK (ct_POWERS T)) (dlen (m_len T) (acons (dv 0) anil))) anil))) (gn 2 sc_table_of.nd) (scons (ssetLc (dec := de_table_of_2) (emb := em_table_of_2) (qb := qb_table_of_2) 3 [("place", 4)] (.one 4) hde_table_of_2 rfl sc_table_of.nd (iseq (dfrz (dcn D_places_of (hr.mono (by decide)) hA (acons (dv 2) (acons (dlen (m_len T) (acons (dv 0) anil)) anil))))) (blkOk_by (own := [("place", 4)]) (N := N_table_of) (sc := defScope (top 15)) (by decide +kernel)) (fun _ _ _ _ _ => pg_name (i := 4) sc_table_of.nd rfl (Or.inl rfl)) (fun _ _ _ _ _ => tyes) (fun _ _ _ _ _ => (dixC 1 (dsub (dv 2) (dixP (dtupK (ct_POWERS T)) (dv 4))))) (fun d i s sk yd h => Eq.mp (by kernel_rfl) h) (sw_true rfl rfl rfl (by decide +kernel))) (ssfreeze2 3 (sone (sapp 1 (dadd (dmaxL (m_max T) rfl hr.units (acons (dv 3) anil)) (dintOf (m_int T) (acons (dfrz (dcn D_is_even (hr.mono (by decide)) hA (acons (dv 0) (acons (dv 2) anil)))) anil))))))) (fun R d i s nx bk h => Eq.mp (by kernel_rfl) h)) (ssfreeze2 1 (sone (sret (m := 0) (dx (dv 1))))))), fun as Q h => ?_⟩
  unfold S_table_of at h
  split at h
  · unfold q_table_of at h
    rename_i x0
    refine at_env (b := [.dat x0, .un, .un, .un, .un]) rfl ?_
    exact Eq.mp (by kernel_rfl) h
  · exact h.elim
theorem ok_table_of (T : Tp K mg) (D_is_even : Dn P w K mg base Tb "is_even" 2 ["balances", "number"] S_is_even) (D_places_of : Dn P w K mg base Tb "places_of" 1 ["number", "many"] S_places_of) : Dn P w K mg base Tb "table_of" 3 ["balances"] S_table_of := by
  obtain ⟨kV, doc, pm, an, cdv, ct, Fn⟩ := T.fun_ "table_of" (top 15) 7 43
  exact ⟨⟨_, fg_table_of T D_is_even D_places_of Fn, Fn.binds (ps := ["balances"]) fun _ _ _ _ _ _ us hl => match us, hl with | [_], _ => rfl⟩, T.glo "table_of" 24, T.keep "table_of" 43⟩
def kk_lots_of : RT → (PyData → Prop) := fun R v => R (.dat v) []
def em_lots_of_1 (i : PyData × PyData) (s : PyData × List (List PyData)) : List SD := [.dat i.1, .dat i.2, .dat s.1, .dic (.mt s.2), .un, .un, .un]
def de_lots_of_1 : List SD → Option ((PyData × PyData) × (PyData × List (List PyData)))
  | [.dat x0, .dat x1, .dat x2, .dic (.mt x3), .un, .un, .un] => some ((x0, x1), (x2, x3))
  | _ => none
theorem hde_lots_of_1 : ∀ env i s, de_lots_of_1 env = some (i, s) → env = em_lots_of_1 i s := by
  intro env i s h
  unfold de_lots_of_1 at h
  split at h
  · cases h; rfl
  · cases h
def em_lots_of_2 (i : PyData × PyData × PyData × List (List PyData) × PyData) (s : Unit) : List SD := [.dat i.1, .dat i.2.1, .dat i.2.2.1, .dic (.mt i.2.2.2.1), .dat i.2.2.2.2, .un, .un]
def de_lots_of_2 : List SD → Option ((PyData × PyData × PyData × List (List PyData) × PyData) × (Unit))
  | [.dat x0, .dat x1, .dat x2, .dic (.mt x3), .dat x4, .un, .un] => some ((x0, x1, x2, x3, x4), ())
  | _ => none
theorem hde_lots_of_2 : ∀ env i s, de_lots_of_2 env = some (i, s) → env = em_lots_of_2 i s := by
  intro env i s h
  unfold de_lots_of_2 at h
  split at h
  · cases h; rfl
  · cases h
def S_lots_of : DSp := fun as Q => match as with
  | [.dat x0] => q_lots_of x0 (kk_lots_of Q)
  | _ => False
theorem len_lots_of (as : List SD) (Q : SD → List SD → Prop) (h : S_lots_of as Q) : as.length = 1 := by
  unfold S_lots_of at h
  split at h
  · rfl
  · exact h.elim
theorem cels_lots_of : CelsIn 0 S_lots_of := by
  intro as Q h i p xs e
  unfold S_lots_of at h
  split at h
  · exact absurd e (no_cel (ds := [_]) i p xs)
  · exact h.elim
def N_lots_of : List Str := ["balances", "table", "number", "found", "due", "place", "one"]
theorem sc_lots_of : FnScope N_lots_of ["balances"] (defScope (top 16)) := ⟨rfl, rfl, rfl, by decide +kernel, rfl, by decide +kernel, by decide +kernel⟩
theorem fg_lots_of (T : Tp K mg) (D_is_even : Dn P w K mg base Tb "is_even" 2 ["balances", "number"] S_is_even) (D_places_of : Dn P w K mg base Tb "places_of" 1 ["number", "many"] S_places_of) (D_table_of : Dn P w K mg base Tb "table_of" 3 ["balances"] S_table_of) {fd : FuncData} (Fn : Fun K "lots_of" "lots_of" (top 16) (He.ga K "lots_of") fd) : FnG P w K mg base Tb 4 (He.ga K "lots_of") fd ["balances"] S_lots_of := by
  refine dfnW 0 Fn sc_lots_of len_lots_of cels_lots_of fun cdv A outer s H hP hW hr hA => ⟨_, (scons (sset 1 sc_lots_of.nd (dcn D_table_of (hr.mono (by decide)) hA (acons (dv 0) anil))) (scons (sset 2 sc_lots_of.nd (dx (dsub (dlen (m_len T) (acons (dv 1) anil)) di))) (scons (smnew 3 sc_lots_of.nd) (scons (swhileQ [4, 5] de_lots_of_1 em_lots_of_1 kk_lots_of qb_lots_of_1 hde_lots_of_1 PassesOwn.never (dcmpT op_gt opr_gt (dv 2) di (nomark _)) (scons (sif (dtest (dfrz (dcn D_is_even (hr.mono (by decide)) hA (acons (dv 0) (acons (dv 2) anil))))) (sone (smadd 3)) snil) (scons (sset 4 sc_lots_of.nd (dx (dsub (dixP (dv 1) (dv 2)) (dintOf (m_int T) (acons (dfrz (dcn D_is_even (hr.mono (by decide)) hA (acons (dv 0) (acons (dv 2) anil)))) anil))))) (scons (sset 5 sc_lots_of.nd (dx (dixP (dfrz (dlc (dec := de_lots_of_2) (emb := em_lots_of_2) (qb := qb_lots_of_2) [("one", 6)] (.one 6) hde_lots_of_2 rfl sc_lots_of.nd (iseq (dfrz (dcn D_places_of (hr.mono (by decide)) hA (acons (dv 2) (acons (dlen (m_len T) (acons (dv 0) anil)) anil))))) (blkOk_by (own := [("one", 6)]) (N := N_lots_of) (sc := defScope (top 16)) (by decide +kernel)) (fun _ _ _ _ _ => pg_name (i := 6) sc_lots_of.nd rfl (Or.inl rfl)) (fun _ _ _ _ _ => tif1 (dcmpT (op_eqE hr.units) opd_eq (dixP (dv 1) (dsub (dv 2) (dixP (dtupK (ct_POWERS T)) (dv 6)))) (dv 4) (nomark _))) (fun _ _ _ _ _ => (dv 6)) (fun d i s sk yd h => Eq.mp (by kernel_rfl) h))) di))) (scons (smput 3 5 (dneg di)) (sone (sset 2 sc_lots_of.nd (dx (dsub (dv 2) (dixP (dtupK (ct_POWERS T)) (dv 5)))))))))) (fun R i s nx bk h => Eq.mp (by kernel_rfl) h)) (ssfreezeW 3 hP hW (sone (sret (m := 0) (dx (dv 3))))))))), fun as Q h => ?_⟩
  unfold S_lots_of at h
  split at h
  · unfold q_lots_of at h
    rename_i x0
    refine at_env (b := [.dat x0, .un, .un, .un, .un, .un, .un]) rfl ?_
    exact Eq.mp (by kernel_rfl) h
  · exact h.elim
theorem ok_lots_of (T : Tp K mg) (D_is_even : Dn P w K mg base Tb "is_even" 2 ["balances", "number"] S_is_even) (D_places_of : Dn P w K mg base Tb "places_of" 1 ["number", "many"] S_places_of) (D_table_of : Dn P w K mg base Tb "table_of" 3 ["balances"] S_table_of) : Dn P w K mg base Tb "lots_of" 4 ["balances"] S_lots_of := by
  obtain ⟨kV, doc, pm, an, cdv, ct, Fn⟩ := T.fun_ "lots_of" (top 16) 8 44
  exact ⟨⟨_, fg_lots_of T D_is_even D_places_of D_table_of Fn, Fn.binds (ps := ["balances"]) fun _ _ _ _ _ _ us hl => match us, hl with | [_], _ => rfl⟩, T.glo "lots_of" 25, T.keep "lots_of" 44⟩
def kk_paid_within : RT → (List PyData → Prop) := fun R v => R (.cel false v) []
def em_paid_within_1 (i : PyData × PyData) (s : Unit) : List SD := [.dat i.1, .dat i.2, .un, .un, .un, .un, .un, .un]
def de_paid_within_1 : List SD → Option ((PyData × PyData) × (Unit))
  | [.dat x0, .dat x1, .un, .un, .un, .un, .un, .un] => some ((x0, x1), ())
  | _ => none
theorem hde_paid_within_1 : ∀ env i s, de_paid_within_1 env = some (i, s) → env = em_paid_within_1 i s := by
  intro env i s h
  unfold de_paid_within_1 at h
  split at h
  · cases h; rfl
  · cases h
def em_paid_within_2 (i : Unit) (s : KVM × List PyData) : List SD := [.un, .un, .dic (.kk s.1), .cel false s.2, .un, .un, .un, .un]
def de_paid_within_2 : List SD → Option ((Unit) × (KVM × List PyData))
  | [.un, .un, .dic (.kk x2), .cel false x3, .un, .un, .un, .un] => some ((), (x2, x3))
  | _ => none
theorem hde_paid_within_2 : ∀ env i s, de_paid_within_2 env = some (i, s) → env = em_paid_within_2 i s := by
  intro env i s h
  unfold de_paid_within_2 at h
  split at h
  · cases h; rfl
  · cases h
def em_paid_within_3 (i : PyData × PyData) (s : Unit) : List SD := [.un, .un, .dat i.1, .dat i.2, .un, .un, .un, .un]
def de_paid_within_3 : List SD → Option ((PyData × PyData) × (Unit))
  | [.un, .un, .dat x2, .dat x3, .un, .un, .un, .un] => some ((x2, x3), ())
  | _ => none
theorem hde_paid_within_3 : ∀ env i s, de_paid_within_3 env = some (i, s) → env = em_paid_within_3 i s := by
  intro env i s h
  unfold de_paid_within_3 at h
  split at h
  · cases h; rfl
  · cases h
def em_paid_within_4 (i : PyData × PyData × PyData) (s : Unit) : List SD := [.un, .un, .dat i.1, .dat i.2.1, .dat i.2.2, .un, .un, .un]
def de_paid_within_4 : List SD → Option ((PyData × PyData × PyData) × (Unit))
  | [.un, .un, .dat x2, .dat x3, .dat x4, .un, .un, .un] => some ((x2, x3, x4), ())
  | _ => none
theorem hde_paid_within_4 : ∀ env i s, de_paid_within_4 env = some (i, s) → env = em_paid_within_4 i s := by
  intro env i s h
  unfold de_paid_within_4 at h
  split at h
  · cases h; rfl
  · cases h
def em_paid_within_5 (i : PyData × List PyData) (s : Unit) : List SD := [.un, .un, .dat i.1, .cel false i.2, .un, .un, .un, .un]
def de_paid_within_5 : List SD → Option ((PyData × List PyData) × (Unit))
  | [.un, .un, .dat x2, .cel false x3, .un, .un, .un, .un] => some ((x2, x3), ())
  | _ => none
theorem hde_paid_within_5 : ∀ env i s, de_paid_within_5 env = some (i, s) → env = em_paid_within_5 i s := by
  intro env i s h
  unfold de_paid_within_5 at h
  split at h
  · cases h; rfl
  · cases h
def S_paid_within : DSp := fun as Q => match as with
  | [.dat x0, .dat x1] => q_paid_within x0 x1 (kk_paid_within Q)
  | _ => False
theorem len_paid_within (as : List SD) (Q : SD → List SD → Prop) (h : S_paid_within as Q) : as.length = 2 := by
  unfold S_paid_within at h
  split at h
  · rfl
  · exact h.elim
theorem cels_paid_within : CelsIn 0 S_paid_within := by
  intro as Q h i p xs e
  unfold S_paid_within at h
  split at h
  · exact absurd e (no_cel (ds := [_, _]) i p xs)
  · exact h.elim
def N_paid_within : List Str := ["balances", "lot", "left", "found", "payer", "taker", "pence", "place"]
theorem sc_paid_within : FnScope N_paid_within ["balances", "lot"] (defScope (top 17)) := ⟨rfl, rfl, rfl, by decide +kernel, rfl, by decide +kernel, by decide +kernel⟩
theorem fg_paid_within (T : Tp K mg)  {fd : FuncData} (Fn : Fun K "paid_within" "paid_within" (top 17) (He.ga K "paid_within") fd) : FnG P w K mg base Tb 1 (He.ga K "paid_within") fd ["balances", "lot"] S_paid_within := by
  refine dfnW 0 Fn sc_paid_within len_paid_within cels_paid_within fun cdv A outer s H hP hW hr hA => ⟨_, (scons (skset 2 sc_paid_within.nd hP hW (ddict (by rfl) (m_dict T) (dfrz (dlc (dec := de_paid_within_1) (emb := em_paid_within_1) (qb := qb_paid_within_1) [("place", 7)] (.one 7) hde_paid_within_1 rfl sc_paid_within.nd (iseqM (dfrz (dsorted hr (m_sorted T) (dv 1)))) (blkOk_by (own := [("place", 7)]) (N := N_paid_within) (sc := defScope (top 17)) (by decide +kernel)) (fun _ _ _ _ _ => pg_name (i := 7) sc_paid_within.nd rfl (Or.inl rfl)) (fun _ _ _ _ _ => tif1 (dcmpT (op_neE hr.units) opd_ne (dixM hr (dv 0) (dv 7)) di (nomark _))) (fun _ _ _ _ _ => (dtup (acons (dv 7) (acons (dixM hr (dv 0) (dv 7)) anil)))) (fun d i s sk yd h => Eq.mp (by kernel_rfl) h))))) (scons (sset 3 sc_paid_within.nd (dlst anil)) (ssforget [0, 1] (scons (swhileQ [4, 5, 6] de_paid_within_2 em_paid_within_2 kk_paid_within qb_paid_within_2 hde_paid_within_2 PassesOwn.never (tborW hP hW (dcmpT (op_empDN (Nat.lt_of_le_of_lt (Nat.le_add_right _ _) hr.units)) opd_empD (dv 2) ddict0 (nomark _))) (scons (sset 4 sc_paid_within.nd (dx (dborW hP hW (dminL (m_min T) rfl hr.units (acons (dfrz (dlc (dec := de_paid_within_3) (emb := em_paid_within_3) (qb := qb_paid_within_3) [("place", 7)] (.one 7) hde_paid_within_3 rfl sc_paid_within.nd (iseqM (dv 2)) (blkOk_by (own := [("place", 7)]) (N := N_paid_within) (sc := defScope (top 17)) (by decide +kernel)) (fun _ _ _ _ _ => pg_name (i := 7) sc_paid_within.nd rfl (Or.inl rfl)) (fun _ _ _ _ _ => tif1 (dcmpT op_ltA opr_ltA (dixM hr (dv 2) (dv 7)) di (nomark _))) (fun _ _ _ _ _ => (dv 7)) (fun d i s sk yd h => Eq.mp (by kernel_rfl) h))) anil))))) (scons (sset 5 sc_paid_within.nd (dx (dborW hP hW (dminL (m_min T) rfl hr.units (acons (dfrz (dlc (dec := de_paid_within_4) (emb := em_paid_within_4) (qb := qb_paid_within_4) [("place", 7)] (.one 7) hde_paid_within_4 rfl sc_paid_within.nd (iseqM (dv 2)) (blkOk_by (own := [("place", 7)]) (N := N_paid_within) (sc := defScope (top 17)) (by decide +kernel)) (fun _ _ _ _ _ => pg_name (i := 7) sc_paid_within.nd rfl (Or.inl rfl)) (fun _ _ _ _ _ => tif1 (dcmpT op_gt opr_gt (dixM hr (dv 2) (dv 7)) di (nomark _))) (fun _ _ _ _ _ => (dv 7)) (fun d i s sk yd h => Eq.mp (by kernel_rfl) h))) anil))))) (scons (sset 6 sc_paid_within.nd (dx (dmin2 (m_min T) rfl (acons (dneg (dborW hP hW (dixM hr (dv 2) (dv 4)))) (acons (dborW hP hW (dixM hr (dv 2) (dv 5))) anil))))) (scons (sapp 3 (dtup (acons (dv 4) (acons (dv 5) (acons (dv 6) anil))))) (scons (skput 2 hr hP hW (dadd (dborW hP hW (dixM hr (dv 2) (dv 4))) (dv 6)) (dv 4)) (scons (skput 2 hr hP hW (dsub (dborW hP hW (dixM hr (dv 2) (dv 5))) (dv 6)) (dv 5)) (ssforget [4, 5, 6] (ssfreezeW 2 hP hW (sone (skset 2 sc_paid_within.nd hP hW (ddict (by rfl) (m_dict T) (dfrz (dlc (dec := de_paid_within_5) (emb := em_paid_within_5) (qb := qb_paid_within_5) [("place", 7)] (.one 7) hde_paid_within_5 rfl sc_paid_within.nd (iseqM (dv 2)) (blkOk_by (own := [("place", 7)]) (N := N_paid_within) (sc := defScope (top 17)) (by decide +kernel)) (fun _ _ _ _ _ => pg_name (i := 7) sc_paid_within.nd rfl (Or.inl rfl)) (fun _ _ _ _ _ => tif1 (dcmpT (op_neE hr.units) opd_ne (dixM hr (dv 2) (dv 7)) di (nomark _))) (fun _ _ _ _ _ => (dtup (acons (dv 7) (acons (dixM hr (dv 2) (dv 7)) anil)))) (fun d i s sk yd h => Eq.mp (by kernel_rfl) h)))))))))))))) (fun R i s nx bk h => Eq.mp (by kernel_rfl) h)) (sone (sretC (m := 0) 3)))))), fun as Q h => ?_⟩
  unfold S_paid_within at h
  split at h
  · unfold q_paid_within at h
    rename_i x0 x1
    refine at_env (b := [.dat x0, .dat x1, .un, .un, .un, .un, .un, .un]) rfl ?_
    exact Eq.mp (by kernel_rfl) h
  · exact h.elim
theorem ok_paid_within (T : Tp K mg)  : Dn P w K mg base Tb "paid_within" 1 ["balances", "lot"] S_paid_within := by
  obtain ⟨kV, doc, pm, an, cdv, ct, Fn⟩ := T.fun_ "paid_within" (top 17) 9 45
  exact ⟨⟨_, fg_paid_within T  Fn, Fn.binds (ps := ["balances", "lot"]) fun _ _ _ _ _ _ us hl => match us, hl with | [_, _], _ => rfl⟩, T.glo "paid_within" 26, T.keep "paid_within" 45⟩
def kk_fewest_payments : RT → (PyData → Prop) := fun R v => R (.dat v) []
def em_fewest_payments_1 (i : PyData) (s : List PyData) : List SD := [.dat i, .cel false s, .un]
def de_fewest_payments_1 : List SD → Option ((PyData) × (List PyData))
  | [.dat x0, .cel false x1, .un] => some (x0, x1)
  | _ => none
theorem hde_fewest_payments_1 : ∀ env i s, de_fewest_payments_1 env = some (i, s) → env = em_fewest_payments_1 i s := by
  intro env i s h
  unfold de_fewest_payments_1 at h
  split at h
  · cases h; rfl
  · cases h
def S_fewest_payments : DSp := fun as Q => match as with
  | [.dat x0] => q_fewest_payments x0 (kk_fewest_payments Q)
  | _ => False
theorem len_fewest_payments (as : List SD) (Q : SD → List SD → Prop) (h : S_fewest_payments as Q) : as.length = 1 := by
  unfold S_fewest_payments at h
  split at h
  · rfl
  · exact h.elim
theorem cels_fewest_payments : CelsIn 0 S_fewest_payments := by
  intro as Q h i p xs e
  unfold S_fewest_payments at h
  split at h
  · exact absurd e (no_cel (ds := [_]) i p xs)
  · exact h.elim
def N_fewest_payments : List Str := ["balances", "found", "lot"]
theorem sc_fewest_payments : FnScope N_fewest_payments ["balances"] (defScope (top 18)) := ⟨rfl, rfl, rfl, by decide +kernel, rfl, by decide +kernel, by decide +kernel⟩
theorem fg_fewest_payments (T : Tp K mg) (D_lots_of : Dn P w K mg base Tb "lots_of" 4 ["balances"] S_lots_of) (D_need_balances : Dn P w K mg base Tb "need_balances" 3 ["thing"] S_need_balances) (D_paid_within : Dn P w K mg base Tb "paid_within" 1 ["balances", "lot"] S_paid_within) {fd : FuncData} (Fn : Fun K "fewest_payments" "fewest_payments" (top 18) (He.ga K "fewest_payments") fd) : FnG P w K mg base Tb 5 (He.ga K "fewest_payments") fd ["balances"] S_fewest_payments := by
  refine dfn 0 Fn sc_fewest_payments len_fewest_payments cels_fewest_payments fun cdv A outer s H hr hA => ⟨_, (scons (sexpr (dcn D_need_balances (hr.mono (by decide)) hA (acons (dv 0) anil))) (scons (sset 1 sc_fewest_payments.nd (dlst anil)) (scons (sforQ [2] de_fewest_payments_1 em_fewest_payments_1 kk_fewest_payments qb_fewest_payments_1 hde_fewest_payments_1 PassesOwn.never rfl (iseq (dfrz (dcn D_lots_of (hr.mono (by decide)) hA (acons (dv 0) anil)))) (gn 2 sc_fewest_payments.nd) (sone (sext 1 (dcn D_paid_within (hr.mono (by decide)) hA (acons (dv 0) (acons (dv 2) anil))))) (fun R d i s nx bk h => Eq.mp (by kernel_rfl) h)) (ssfreeze2 1 (sone (sret (m := 0) (dx (dtupleOf (m_tuple T) (acons (dfrz (dsorted hr (m_sorted T) (dv 1))) anil))))))))), fun as Q h => ?_⟩
  unfold S_fewest_payments at h
  split at h
  · unfold q_fewest_payments at h
    rename_i x0
    refine at_env (b := [.dat x0, .un, .un]) rfl ?_
    exact Eq.mp (by kernel_rfl) h
  · exact h.elim
theorem ok_fewest_payments (T : Tp K mg) (D_lots_of : Dn P w K mg base Tb "lots_of" 4 ["balances"] S_lots_of) (D_need_balances : Dn P w K mg base Tb "need_balances" 3 ["thing"] S_need_balances) (D_paid_within : Dn P w K mg base Tb "paid_within" 1 ["balances", "lot"] S_paid_within) : Dn P w K mg base Tb "fewest_payments" 5 ["balances"] S_fewest_payments := by
  obtain ⟨kV, doc, pm, an, cdv, ct, Fn⟩ := T.fun_ "fewest_payments" (top 18) 10 46
  exact ⟨⟨_, fg_fewest_payments T D_lots_of D_need_balances D_paid_within Fn, Fn.binds (ps := ["balances"]) fun _ _ _ _ _ _ us hl => match us, hl with | [_], _ => rfl⟩, T.glo "fewest_payments" 27, T.keep "fewest_payments" 46⟩
def kk_lots_table : RT → (PyData → Prop) := fun R v => R (.dat v) []
def S_lots_table : DSp := fun as Q => match as with
  | [.dat x0] => q_lots_table x0 (kk_lots_table Q)
  | _ => False
theorem len_lots_table (as : List SD) (Q : SD → List SD → Prop) (h : S_lots_table as Q) : as.length = 1 := by
  unfold S_lots_table at h
  split at h
  · rfl
  · exact h.elim
theorem cels_lots_table : CelsIn 0 S_lots_table := by
  intro as Q h i p xs e
  unfold S_lots_table at h
  split at h
  · exact absurd e (no_cel (ds := [_]) i p xs)
  · exact h.elim
def N_lots_table : List Str := ["balances"]
theorem sc_lots_table : FnScope N_lots_table ["balances"] (defScope (top 19)) := ⟨rfl, rfl, rfl, by decide +kernel, rfl, by decide +kernel, by decide +kernel⟩
theorem fg_lots_table (T : Tp K mg) (D_need_balances : Dn P w K mg base Tb "need_balances" 3 ["thing"] S_need_balances) (D_table_of : Dn P w K mg base Tb "table_of" 3 ["balances"] S_table_of) {fd : FuncData} (Fn : Fun K "lots_table" "lots_table" (top 19) (He.ga K "lots_table") fd) : FnG P w K mg base Tb 4 (He.ga K "lots_table") fd ["balances"] S_lots_table := by
  refine dfn 0 Fn sc_lots_table len_lots_table cels_lots_table fun cdv A outer s H hr hA => ⟨_, (scons (sexpr (dcn D_need_balances (hr.mono (by decide)) hA (acons (dv 0) anil))) (sone (sret (m := 0) (dx (dtupleOf (m_tuple T) (acons (dfrz (dcn D_table_of (hr.mono (by decide)) hA (acons (dv 0) anil))) anil)))))), fun as Q h => ?_⟩
  unfold S_lots_table at h
  split at h
  · unfold q_lots_table at h
    rename_i x0
    refine at_env (b := [.dat x0]) rfl ?_
    exact Eq.mp (by kernel_rfl) h
  · exact h.elim
theorem ok_lots_table (T : Tp K mg) (D_need_balances : Dn P w K mg base Tb "need_balances" 3 ["thing"] S_need_balances) (D_table_of : Dn P w K mg base Tb "table_of" 3 ["balances"] S_table_of) : Dn P w K mg base Tb "lots_table" 4 ["balances"] S_lots_table := by
  obtain ⟨kV, doc, pm, an, cdv, ct, Fn⟩ := T.fun_ "lots_table" (top 19) 11 47
  exact ⟨⟨_, fg_lots_table T D_need_balances D_table_of Fn, Fn.binds (ps := ["balances"]) fun _ _ _ _ _ _ us hl => match us, hl with | [_], _ => rfl⟩, T.glo "lots_table" 28, T.keep "lots_table" 47⟩
def kk_is_above : RT → (PyData → Prop) := fun R v => R (.dat v) []
def em_is_above_1 (i : PyData × PyData × PyData × PyData) (s : Unit) : List SD := [.dat i.1, .dat i.2.1, .dat i.2.2.1, .dat i.2.2.2, .un]
def de_is_above_1 : List SD → Option ((PyData × PyData × PyData × PyData) × (Unit))
  | [.dat x0, .dat x1, .dat x2, .dat x3, .un] => some ((x0, x1, x2, x3), ())
  | _ => none
theorem hde_is_above_1 : ∀ env i s, de_is_above_1 env = some (i, s) → env = em_is_above_1 i s := by
  intro env i s h
  unfold de_is_above_1 at h
  split at h
  · cases h; rfl
  · cases h
def S_is_above : DSp := fun as Q => match as with
  | [.dat x0, .dat x1, .dat x2] => q_is_above x0 x1 x2 (kk_is_above Q)
  | _ => False
theorem len_is_above (as : List SD) (Q : SD → List SD → Prop) (h : S_is_above as Q) : as.length = 3 := by
  unfold S_is_above at h
  split at h
  · rfl
  · exact h.elim
theorem cels_is_above : CelsIn 0 S_is_above := by
  intro as Q h i p xs e
  unfold S_is_above at h
  split at h
  · exact absurd e (no_cel (ds := [_, _, _]) i p xs)
  · exact h.elim
def N_is_above : List Str := ["balances", "thing", "number", "more", "place"]
theorem sc_is_above : FnScope N_is_above ["balances", "thing", "number"] (defScope (top 20)) := ⟨rfl, rfl, rfl, by decide +kernel, rfl, by decide +kernel, by decide +kernel⟩
theorem fg_is_above (T : Tp K mg) (D_is_even : Dn P w K mg base Tb "is_even" 2 ["balances", "number"] S_is_even) (D_places_of : Dn P w K mg base Tb "places_of" 1 ["number", "many"] S_places_of) {fd : FuncData} (Fn : Fun K "is_above" "is_above" (top 20) (He.ga K "is_above") fd) : FnG P w K mg base Tb 3 (He.ga K "is_above") fd ["balances", "thing", "number"] S_is_above := by
  refine dfn 0 Fn sc_is_above len_is_above cels_is_above fun cdv A outer s H hr hA => ⟨_, (scons (sset 3 sc_is_above.nd (dx (dintOf (m_int T) (acons (dfrz (dcn D_is_even (hr.mono (by decide)) hA (acons (dv 0) (acons (dv 2) anil)))) anil)))) (sone (sret (m := 0) (dx (dall (m_all T) rfl (acons (dfrz (dlc (dec := de_is_above_1) (emb := em_is_above_1) (qb := qb_is_above_1) [("place", 4)] (.one 4) hde_is_above_1 rfl sc_is_above.nd (iseq (dfrz (dcn D_places_of (hr.mono (by decide)) hA (acons (dv 2) (acons (dlen (m_len T) (acons (dv 0) anil)) anil))))) (blkOk_by (own := [("place", 4)]) (N := N_is_above) (sc := defScope (top 20)) (by decide +kernel)) (fun _ _ _ _ _ => pg_name (i := 4) sc_is_above.nd rfl (Or.inl rfl)) (fun _ _ _ _ _ => tyes) (fun _ _ _ _ _ => (dcmp op_ge opr_ge (dixP (dv 1) (dv 2)) (dadd (dixP (dv 1) (dsub (dv 2) (dixP (dtupK (ct_POWERS T)) (dv 4)))) (dv 3)) (nomark _))) (fun d i s sk yd h => Eq.mp (by kernel_rfl) h))) anil)))))), fun as Q h => ?_⟩
  unfold S_is_above at h
  split at h
  · unfold q_is_above at h
    rename_i x0 x1 x2
    refine at_env (b := [.dat x0, .dat x1, .dat x2, .un, .un]) rfl ?_
    exact Eq.mp (by kernel_rfl) h
  · exact h.elim
theorem ok_is_above (T : Tp K mg) (D_is_even : Dn P w K mg base Tb "is_even" 2 ["balances", "number"] S_is_even) (D_places_of : Dn P w K mg base Tb "places_of" 1 ["number", "many"] S_places_of) : Dn P w K mg base Tb "is_above" 3 ["balances", "thing", "number"] S_is_above := by
  obtain ⟨kV, doc, pm, an, cdv, ct, Fn⟩ := T.fun_ "is_above" (top 20) 12 48
  exact ⟨⟨_, fg_is_above T D_is_even D_places_of Fn, Fn.binds (ps := ["balances", "thing", "number"]) fun _ _ _ _ _ _ us hl => match us, hl with | [_, _, _], _ => rfl⟩, T.glo "is_above" 29, T.keep "is_above" 48⟩
def kk_table_says : RT → (PyData → Prop) := fun R v => R (.dat v) []
def em_table_says_1 (i : PyData × PyData) (s : Unit) : List SD := [.dat i.1, .dat i.2, .un, .un]
def de_table_says_1 : List SD → Option ((PyData × PyData) × (Unit))
  | [.dat x0, .dat x1, .un, .un] => some ((x0, x1), ())
  | _ => none
theorem hde_table_says_1 : ∀ env i s, de_table_says_1 env = some (i, s) → env = em_table_says_1 i s := by
  intro env i s h
  unfold de_table_says_1 at h
  split at h
  · cases h; rfl
  · cases h
def em_table_says_2 (i : PyData × PyData) (s : Unit) : List SD := [.dat i.1, .dat i.2, .un, .un]
def de_table_says_2 : List SD → Option ((PyData × PyData) × (Unit))
  | [.dat x0, .dat x1, .un, .un] => some ((x0, x1), ())
  | _ => none
theorem hde_table_says_2 : ∀ env i s, de_table_says_2 env = some (i, s) → env = em_table_says_2 i s := by
  intro env i s h
  unfold de_table_says_2 at h
  split at h
  · cases h; rfl
  · cases h
def S_table_says : DSp := fun as Q => match as with
  | [.dat x0, .dat x1] => q_table_says x0 x1 (kk_table_says Q)
  | _ => False
theorem len_table_says (as : List SD) (Q : SD → List SD → Prop) (h : S_table_says as Q) : as.length = 2 := by
  unfold S_table_says at h
  split at h
  · rfl
  · exact h.elim
theorem cels_table_says : CelsIn 0 S_table_says := by
  intro as Q h i p xs e
  unfold S_table_says at h
  split at h
  · exact absurd e (no_cel (ds := [_, _]) i p xs)
  · exact h.elim
def N_table_says : List Str := ["balances", "thing", "one", "number"]
theorem sc_table_says : FnScope N_table_says ["balances", "thing"] (defScope (top 21)) := ⟨rfl, rfl, rfl, by decide +kernel, rfl, by decide +kernel, by decide +kernel⟩
theorem fg_table_says (T : Tp K mg) (D_is_above : Dn P w K mg base Tb "is_above" 3 ["balances", "thing", "number"] S_is_above) (D_is_whole : Dn P w K mg base Tb "is_whole" 1 ["thing"] S_is_whole) (D_need_balances : Dn P w K mg base Tb "need_balances" 3 ["thing"] S_need_balances) {fd : FuncData} (Fn : Fun K "table_says" "table_says" (top 21) (He.ga K "table_says") fd) : FnG P w K mg base Tb 4 (He.ga K "table_says") fd ["balances", "thing"] S_table_says := by
  refine dfn 0 Fn sc_table_says len_table_says cels_table_says fun cdv A outer s H hr hA => ⟨_, (scons (sexpr (dcn D_need_balances (hr.mono (by decide)) hA (acons (dv 0) anil))) (scons (sif (tor (tnot (dtest (disi "tuple" "tuple" (m_isinstance T) (m_tuple T) (by decide +kernel) (by decide +kernel) (dv 1)))) (tor (dcmpT (op_neE hr.units) opd_ne (dlen (m_len T) (acons (dv 1) anil)) (dixP (dtupK (ct_POWERS T)) (dlen (m_len T) (acons (dv 0) anil))) (nomark _)) (tor1 (tnot (dtest (dall (m_all T) rfl (acons (dfrz (dlc (dec := de_table_says_1) (emb := em_table_says_1) (qb := qb_table_says_1) [("one", 2)] (.one 2) hde_table_says_1 rfl sc_table_says.nd (iseq (dv 1)) (blkOk_by (own := [("one", 2)]) (N := N_table_says) (sc := defScope (top 21)) (by decide +kernel)) (fun _ _ _ _ _ => pg_name (i := 2) sc_table_says.nd rfl (Or.inl rfl)) (fun _ _ _ _ _ => tyes) (fun _ _ _ _ _ => (dfrz (dcn D_is_whole (hr.mono (by decide)) hA (acons (dv 2) anil)))) (fun d i s sk yd h => Eq.mp (by kernel_rfl) h))) anil))))))).pt (sone (sret (m := 0) (dx dn))) snil) (scons (sif (tor (dcmpT op_ltA opr_ltA (dixP (dv 1) di) di (nomark _)) (tor1 (tnot (dtest (dall (m_all T) rfl (acons (dfrz (dlc (dec := de_table_says_2) (emb := em_table_says_2) (qb := qb_table_says_2) [("number", 3)] (.one 3) hde_table_says_2 rfl sc_table_says.nd (irange2 (m_range T) (acons di (acons (dlen (m_len T) (acons (dv 1) anil)) anil))) (blkOk_by (own := [("number", 3)]) (N := N_table_says) (sc := defScope (top 21)) (by decide +kernel)) (fun _ _ _ _ _ => pg_name (i := 3) sc_table_says.nd rfl (Or.inl rfl)) (fun _ _ _ _ _ => tyes) (fun _ _ _ _ _ => (dfrz (dcn D_is_above (hr.mono (by decide)) hA (acons (dv 0) (acons (dv 1) (acons (dv 3) anil)))))) (fun d i s sk yd h => Eq.mp (by kernel_rfl) h))) anil)))))).pt (sone (sret (m := 0) (dx dn))) snil) (sone (sret (m := 0) (dx (dsub (dlen (m_len T) (acons (dv 0) anil)) (dixP (dv 1) (dneg di))))))))), fun as Q h => ?_⟩
  unfold S_table_says at h
  split at h
  · unfold q_table_says at h
    rename_i x0 x1
    refine at_env (b := [.dat x0, .dat x1, .un, .un]) rfl ?_
    exact Eq.mp (by kernel_rfl) h
  · exact h.elim
theorem ok_table_says (T : Tp K mg) (D_is_above : Dn P w K mg base Tb "is_above" 3 ["balances", "thing", "number"] S_is_above) (D_is_whole : Dn P w K mg base Tb "is_whole" 1 ["thing"] S_is_whole) (D_need_balances : Dn P w K mg base Tb "need_balances" 3 ["thing"] S_need_balances) : Dn P w K mg base Tb "table_says" 4 ["balances", "thing"] S_table_says := by
  obtain ⟨kV, doc, pm, an, cdv, ct, Fn⟩ := T.fun_ "table_says" (top 21) 13 49
  exact ⟨⟨_, fg_table_says T D_is_above D_is_whole D_need_balances Fn, Fn.binds (ps := ["balances", "thing"]) fun _ _ _ _ _ _ us hl => match us, hl with | [_, _], _ => rfl⟩, T.glo "table_says" 30, T.keep "table_says" 49⟩
def kk_law_pot : RT → (List PyData → Prop) := fun R v => R (.cel false v) []
def S_law_pot : DSp := fun as Q => match as with
  | [.dat x0, .dat x1] => q_law_pot x0 x1 (kk_law_pot Q)
  | _ => False
theorem len_law_pot (as : List SD) (Q : SD → List SD → Prop) (h : S_law_pot as Q) : as.length = 2 := by
  unfold S_law_pot at h
  split at h
  · rfl
  · exact h.elim
theorem cels_law_pot : CelsIn 0 S_law_pot := by
  intro as Q h i p xs e
  unfold S_law_pot at h
  split at h
  · exact absurd e (no_cel (ds := [_, _]) i p xs)
  · exact h.elim
def N_law_pot : List Str := ["_law_script", "_law_k", "_law_cell"]
theorem sc_law_pot : FnScope N_law_pot ["_law_script", "_law_k"] (defScope (top 23)) := ⟨rfl, rfl, rfl, by decide +kernel, rfl, by decide +kernel, by decide +kernel⟩
theorem fg_law_pot (T : Tp K mg)  {fd : FuncData} (Fn : Fun K "_law_pot" "_law_pot" (top 23) (He.ga K "_law_pot") fd) : FnG P w K mg base Tb 1 (He.ga K "_law_pot") fd ["_law_script", "_law_k"] S_law_pot := by
  refine dfn 0 Fn sc_law_pot len_law_pot cels_law_pot fun cdv A outer s H hr hA => ⟨_, (scons (sset 2 sc_law_pot.nd (dx di)) (scons (sif (dcmpT op_ltA opr_ltA (dv 1) (dlen (m_len T) (acons (dv 0) anil)) (nomark _)) (sone (sset 2 sc_law_pot.nd (dx (dmod (dabs (m_abs T) (acons (dixP (dv 0) (dv 1)) anil)) (dpow (dpow di di) di))))) snil) (sone (sret (m := 0) (dlst (acons (dmul (dv 2) (dintOf (m_int T) (acons (dcmp op_ge opr_ge (dv 2) (dpow di di) (nomark _)) anil))) (acons (dadd (dadd (dmod (dv 2) di) (dmul di (dv 1))) di) (acons di anil)))))))), fun as Q h => ?_⟩
  unfold S_law_pot at h
  split at h
  · unfold q_law_pot at h
    rename_i x0 x1
    refine at_env (b := [.dat x0, .dat x1, .un]) rfl ?_
    exact Eq.mp (by kernel_rfl) h
  · exact h.elim
theorem ok_law_pot (T : Tp K mg)  : Dn P w K mg base Tb "_law_pot" 1 ["_law_script", "_law_k"] S_law_pot := by
  obtain ⟨kV, doc, pm, an, cdv, ct, Fn⟩ := T.fun_ "_law_pot" (top 23) 14 50
  exact ⟨⟨_, fg_law_pot T  Fn, Fn.binds (ps := ["_law_script", "_law_k"]) fun _ _ _ _ _ _ us hl => match us, hl with | [_, _], _ => rfl⟩, T.glo "_law_pot" 31, T.keep "_law_pot" 50⟩
def kk_law_take : RT → (PyData → List PyData → Prop) := fun R v c => R (.dat v) [.cel true c]
def S_law_take : DSp := fun as Q => match as with
  | [.cel true x0, .dat x1] => q_law_take x0 x1 (kk_law_take Q)
  | _ => False
theorem len_law_take (as : List SD) (Q : SD → List SD → Prop) (h : S_law_take as Q) : as.length = 2 := by
  unfold S_law_take at h
  split at h
  · rfl
  · exact h.elim
theorem cels_law_take : CelsIn 1 S_law_take := by
  intro as Q h i p xs e
  unfold S_law_take at h
  split at h
  · exact cels1 (ds := [_]) e
  · exact h.elim
def N_law_take : List Str := ["_law_pot_here", "_law_many", "_law_found", "_law_turn", "_law_primes", "_law_one"]
theorem sc_law_take : FnScope N_law_take ["_law_pot_here", "_law_many"] (defScope (top 24)) := ⟨rfl, rfl, rfl, by decide +kernel, rfl, by decide +kernel, by decide +kernel⟩
theorem fg_law_take (T : Tp K mg)  {fd : FuncData} (Fn : Fun K "_law_take" "_law_take" (top 24) (He.ga K "_law_take") fd) : FnG P w K mg base Tb 1 (He.ga K "_law_take") fd ["_law_pot_here", "_law_many"] S_law_take := by
  refine dfn 1 Fn sc_law_take len_law_take cels_law_take fun cdv A outer s H hr hA => ⟨_, (scons (sif (dcmpT op_gt opr_gt (dixC 0 di) di (nomark _)) (scons (sset 2 sc_law_take.nd (dx (dmod (dixC 0 di) (dv 1)))) (scons (ssetC 0 (ddiv (dixC 0 di) (dv 1)) di) (sone (sret (m := 1) (dx (dv 2)))))) snil) (scons (ssetC 0 (dadd (dixC 0 di) di) di) (scons (sset 3 sc_law_take.nd (dx (dixC 0 di))) (scons (sset 4 sc_law_take.nd (dx (dfrz (dlst (acons di (acons di (acons di (acons di (acons di (acons di (acons di anil))))))))))) (scons (sset 5 sc_law_take.nd (dx (dmod (dadd (dmul (dixC 0 di) (dadd (dmul di (dv 3)) di)) (dmul (dmul di (dv 3)) (dv 3))) (dixP (dv 4) (dmod (dv 3) di))))) (sone (sret (m := 1) (dx (dmod (ddiv (dmod (dpow (dv 5) di) di) di) (dv 1)))))))))), fun as Q h => ?_⟩
  unfold S_law_take at h
  split at h
  · unfold q_law_take at h
    rename_i x0 x1
    refine at_env (b := [.cel true x0, .dat x1, .un, .un, .un, .un]) rfl ?_
    exact Eq.mp (by kernel_rfl) h
  · exact h.elim
theorem ok_law_take (T : Tp K mg)  : Dn P w K mg base Tb "_law_take" 1 ["_law_pot_here", "_law_many"] S_law_take := by
  obtain ⟨kV, doc, pm, an, cdv, ct, Fn⟩ := T.fun_ "_law_take" (top 24) 15 51
  exact ⟨⟨_, fg_law_take T  Fn, Fn.binds (ps := ["_law_pot_here", "_law_many"]) fun _ _ _ _ _ _ us hl => match us, hl with | [_, _], _ => rfl⟩, T.glo "_law_take" 32, T.keep "_law_take" 51⟩
def kk_law_drawn : RT → (PyData → List PyData → Prop) := fun R v c => R (.dat v) [.cel true c]
def em_law_drawn_1 (i : PyData × PyData) (s : List PyData × List PyData × List PyData) : List SD := [.cel true s.1, .dat i.1, .un, .dat i.2, .cel false s.2.1, .cel false s.2.2, .un, .un, .un, .un]
def de_law_drawn_1 : List SD → Option ((PyData × PyData) × (List PyData × List PyData × List PyData))
  | [.cel true x0, .dat x1, .un, .dat x3, .cel false x4, .cel false x5, .un, .un, .un, .un] => some ((x1, x3), (x0, x4, x5))
  | _ => none
theorem hde_law_drawn_1 : ∀ env i s, de_law_drawn_1 env = some (i, s) → env = em_law_drawn_1 i s := by
  intro env i s h
  unfold de_law_drawn_1 at h
  split at h
  · cases h; rfl
  · cases h
def S_law_drawn : DSp := fun as Q => match as with
  | [.cel true x0, .dat x1] => q_law_drawn x0 x1 (kk_law_drawn Q)
  | _ => False
theorem len_law_drawn (as : List SD) (Q : SD → List SD → Prop) (h : S_law_drawn as Q) : as.length = 2 := by
  unfold S_law_drawn at h
  split at h
  · rfl
  · exact h.elim
theorem cels_law_drawn : CelsIn 1 S_law_drawn := by
  intro as Q h i p xs e
  unfold S_law_drawn at h
  split at h
  · exact cels1 (ds := [_]) e
  · exact h.elim
def N_law_drawn : List Str := ["_law_pot_here", "_law_many", "_law_size", "_law_far", "_law_paid", "_law_left", "_law_k", "_law_payer", "_law_taker", "_law_pence"]
theorem sc_law_drawn : FnScope N_law_drawn ["_law_pot_here", "_law_many"] (defScope (top 25)) := ⟨rfl, rfl, rfl, by decide +kernel, rfl, by decide +kernel, by decide +kernel⟩
theorem fg_law_drawn (T : Tp K mg) (D_law_take : Dn P w K mg base Tb "_law_take" 1 ["_law_pot_here", "_law_many"] S_law_take) {fd : FuncData} (Fn : Fun K "_law_drawn" "_law_drawn" (top 25) (He.ga K "_law_drawn") fd) : FnG P w K mg base Tb 2 (He.ga K "_law_drawn") fd ["_law_pot_here", "_law_many"] S_law_drawn := by
  refine dfn 1 Fn sc_law_drawn len_law_drawn cels_law_drawn fun cdv A outer s H hr hA => ⟨_, (scons (sset 2 sc_law_drawn.nd (dx (dmul (dfrz (dcnC 0 D_law_take (hr.mono (by decide)) hA (acons di anil))) (dintOf (m_int T) (acons (dcmp op_gt opr_gt (dv 1) di (nomark _)) anil))))) (scons (sset 3 sc_law_drawn.nd (dx (dixP (dfrz (dlst (acons di (acons di (acons (dpow di di) anil))))) (dfrz (dcnC 0 D_law_take (hr.mono (by decide)) hA (acons di anil)))))) (scons (sset 4 sc_law_drawn.nd (dlst anil)) (scons (sset 5 sc_law_drawn.nd (drep di (dv 1))) (scons (sforQ [2, 6, 7, 8, 9] de_law_drawn_1 em_law_drawn_1 kk_law_drawn qb_law_drawn_1 hde_law_drawn_1 PassesOwn.never rfl (irange1 (m_range T) (acons (dv 2) anil)) (gn 6 sc_law_drawn.nd) (scons (sset 7 sc_law_drawn.nd (dcnC 0 D_law_take (hr.mono (by decide)) hA (acons (dv 1) anil))) (scons (sset 8 sc_law_drawn.nd (dx (dmod (dadd (dadd (dv 7) di) (dfrz (dcnC 0 D_law_take (hr.mono (by decide)) hA (acons (dsub (dv 1) di) anil)))) (dv 1)))) (scons (sset 9 sc_law_drawn.nd (dx (dadd di (dfrz (dcnC 0 D_law_take (hr.mono (by decide)) hA (acons (dv 3) anil)))))) (scons (sapp 4 (dtup (acons (dv 7) (acons (dv 8) (acons (dv 9) anil))))) (scons (ssetC 5 (dsub (dixC 5 (dv 7)) (dv 9)) (dv 7)) (sone (ssetC 5 (dadd (dixC 5 (dv 8)) (dv 9)) (dv 8)))))))) (fun R d i s nx bk h => Eq.mp (by kernel_rfl) h)) (sone (sret (m := 1) (dx (dtup (acons (dtupC 5 (m_tuple T)) (acons (dtupC 4 (m_tuple T)) anil))))))))))), fun as Q h => ?_⟩
  unfold S_law_drawn at h
  split at h
  · unfold q_law_drawn at h
    rename_i x0 x1
    refine at_env (b := [.cel true x0, .dat x1, .un, .un, .un, .un, .un, .un, .un, .un]) rfl ?_
    exact Eq.mp (by kernel_rfl) h
  · exact h.elim
theorem ok_law_drawn (T : Tp K mg) (D_law_take : Dn P w K mg base Tb "_law_take" 1 ["_law_pot_here", "_law_many"] S_law_take) : Dn P w K mg base Tb "_law_drawn" 2 ["_law_pot_here", "_law_many"] S_law_drawn := by
  obtain ⟨kV, doc, pm, an, cdv, ct, Fn⟩ := T.fun_ "_law_drawn" (top 25) 16 52
  exact ⟨⟨_, fg_law_drawn T D_law_take Fn, Fn.binds (ps := ["_law_pot_here", "_law_many"]) fun _ _ _ _ _ _ us hl => match us, hl with | [_, _], _ => rfl⟩, T.glo "_law_drawn" 33, T.keep "_law_drawn" 52⟩
def kk_law_right : RT → (PyData → List PyData → Prop) := fun R v c => R (.dat v) [.cel true c]
def em_law_right_1 (i : List PyData × PyData × PyData × PyData × PyData) (s : Unit) : List SD := [.cel true i.1, .dat i.2.1, .un, .dat i.2.2.1, .dat i.2.2.2.1, .dat i.2.2.2.2, .un, .un, .un, .un]
def de_law_right_1 : List SD → Option ((List PyData × PyData × PyData × PyData × PyData) × (Unit))
  | [.cel true x0, .dat x1, .un, .dat x3, .dat x4, .dat x5, .un, .un, .un, .un] => some ((x0, x1, x3, x4, x5), ())
  | _ => none
theorem hde_law_right_1 : ∀ env i s, de_law_right_1 env = some (i, s) → env = em_law_right_1 i s := by
  intro env i s h
  unfold de_law_right_1 at h
  split at h
  · cases h; rfl
  · cases h
def em_law_right_2 (i : List PyData × PyData × PyData × PyData × PyData × PyData) (s : Unit) : List SD := [.cel true i.1, .dat i.2.1, .un, .dat i.2.2.1, .dat i.2.2.2.1, .dat i.2.2.2.2.1, .dat i.2.2.2.2.2, .un, .un, .un]
def de_law_right_2 : List SD → Option ((List PyData × PyData × PyData × PyData × PyData × PyData) × (Unit))
  | [.cel true x0, .dat x1, .un, .dat x3, .dat x4, .dat x5, .dat x6, .un, .un, .un] => some ((x0, x1, x3, x4, x5, x6), ())
  | _ => none
theorem hde_law_right_2 : ∀ env i s, de_law_right_2 env = some (i, s) → env = em_law_right_2 i s := by
  intro env i s h
  unfold de_law_right_2 at h
  split at h
  · cases h; rfl
  · cases h
def em_law_right_3 (i : List PyData × PyData × PyData) (s : Unit) : List SD := [.cel true i.1, .dat i.2.1, .un, .dat i.2.2, .un, .un, .un, .un, .un, .un]
def de_law_right_3 : List SD → Option ((List PyData × PyData × PyData) × (Unit))
  | [.cel true x0, .dat x1, .un, .dat x3, .un, .un, .un, .un, .un, .un] => some ((x0, x1, x3), ())
  | _ => none
theorem hde_law_right_3 : ∀ env i s, de_law_right_3 env = some (i, s) → env = em_law_right_3 i s := by
  intro env i s h
  unfold de_law_right_3 at h
  split at h
  · cases h; rfl
  · cases h
def S_law_right : DSp := fun as Q => match as with
  | [.cel true x0, .dat x1, .dat x2] => q_law_right x0 x1 x2 (kk_law_right Q)
  | _ => False
theorem len_law_right (as : List SD) (Q : SD → List SD → Prop) (h : S_law_right as Q) : as.length = 3 := by
  unfold S_law_right at h
  split at h
  · rfl
  · exact h.elim
theorem cels_law_right : CelsIn 1 S_law_right := by
  intro as Q h i p xs e
  unfold S_law_right at h
  split at h
  · exact cels1 (ds := [_, _]) e
  · exact h.elim
def N_law_right : List Str := ["_law_pot_here", "_law_balances", "_law_paid", "_law_few", "_law_table", "_law_at", "_law_more", "_law_greater", "_law_says", "_law_one"]
theorem sc_law_right : FnScope N_law_right ["_law_pot_here", "_law_balances", "_law_paid"] (defScope (top 26)) := ⟨rfl, rfl, rfl, by decide +kernel, rfl, by decide +kernel, by decide +kernel⟩
theorem fg_law_right (T : Tp K mg) (D_law_take : Dn P w K mg base Tb "_law_take" 1 ["_law_pot_here", "_law_many"] S_law_take) (D_are_balances : Dn P w K mg base Tb "are_balances" 2 ["thing"] S_are_balances) (D_fewest_payments : Dn P w K mg base Tb "fewest_payments" 5 ["balances"] S_fewest_payments) (D_lots_table : Dn P w K mg base Tb "lots_table" 4 ["balances"] S_lots_table) (D_settles : Dn P w K mg base Tb "settles" 4 ["balances", "thing"] S_settles) (D_table_says : Dn P w K mg base Tb "table_says" 4 ["balances", "thing"] S_table_says) {fd : FuncData} (Fn : Fun K "_law_right" "_law_right" (top 26) (He.ga K "_law_right") fd) : FnG P w K mg base Tb 6 (He.ga K "_law_right") fd ["_law_pot_here", "_law_balances", "_law_paid"] S_law_right := by
  refine dfn 1 Fn sc_law_right len_law_right cels_law_right fun cdv A outer s H hr hA => ⟨_, (scons (sif (tor (tnotB (dfrz (dcn D_are_balances (hr.mono (by decide)) hA (acons (dv 1) anil)))) (tor1 (tnotB (dfrz (dcn D_settles (hr.mono (by decide)) hA (acons (dv 1) (acons (dv 2) anil))))))).pt (sone (sret (m := 1) (dx db))) snil) (scons (sset 3 sc_law_right.nd (dcn D_fewest_payments (hr.mono (by decide)) hA (acons (dv 1) anil))) (scons (sset 4 sc_law_right.nd (dcn D_lots_table (hr.mono (by decide)) hA (acons (dv 1) anil))) (scons (sif (tor (dcmpT op_gt opr_gt (dlen (m_len T) (acons (dv 3) anil)) (dlen (m_len T) (acons (dv 2) anil)) (nomark _)) (tor1 (tnotB (dfrz (dcn D_settles (hr.mono (by decide)) hA (acons (dv 1) (acons (dv 3) anil))))))).pt (sone (sret (m := 1) (dx db))) snil) (ssforget [2] (scons (sif (tor (dcmpT (op_neE hr.units) opd_ne (dfrz (dcn D_table_says (hr.mono (by decide)) hA (acons (dv 1) (acons (dv 4) anil)))) (dlen (m_len T) (acons (dv 3) anil)) (nomark _)) (tor1 (dcmpT op_gt opr_gt (dlen (m_len T) (acons (dv 3) anil)) (dmax2 (m_max T) rfl (acons di (acons (dsub (dlen (m_len T) (acons (dv 1) anil)) di) anil))) (nomark _)))).pt (sone (sret (m := 1) (dx db))) snil) (scons (sset 5 sc_law_right.nd (dcnC 0 D_law_take (hr.mono (by decide)) hA (acons (dlen (m_len T) (acons (dv 4) anil)) anil))) (scons (sset 6 sc_law_right.nd (dx (dtupleOf (m_tuple T) (acons (dfrz (dlc (dec := de_law_right_1) (emb := em_law_right_1) (qb := qb_law_right_1) [("_law_one", 9)] (.one 9) hde_law_right_1 rfl sc_law_right.nd (iseq (dsl (dv 4) (so_some (dv 5)) so_none)) (blkOk_by (own := [("_law_one", 9)]) (N := N_law_right) (sc := defScope (top 26)) (by decide +kernel)) (fun _ _ _ _ _ => pg_name (i := 9) sc_law_right.nd rfl (Or.inl rfl)) (fun _ _ _ _ _ => tyes) (fun _ _ _ _ _ => (dadd (dv 9) di)) (fun d i s sk yd h => Eq.mp (by kernel_rfl) h))) anil)))) (scons (sforQ [4, 5, 6, 7, 8] de_law_right_3 em_law_right_3 kk_law_right qb_law_right_3 hde_law_right_3 PassesOwn.never rfl (iseq (dfrz (dlst (acons (dtupleOf (m_tuple T) (acons (dfrz (dlc (dec := de_law_right_2) (emb := em_law_right_2) (qb := qb_law_right_2) [("_law_one", 9)] (.one 9) hde_law_right_2 rfl sc_law_right.nd (iseq (dv 4)) (blkOk_by (own := [("_law_one", 9)]) (N := N_law_right) (sc := defScope (top 26)) (by decide +kernel)) (fun _ _ _ _ _ => pg_name (i := 9) sc_law_right.nd rfl (Or.inl rfl)) (fun _ _ _ _ _ => tyes) (fun _ _ _ _ _ => (dadd (dv 9) di)) (fun d i s sk yd h => Eq.mp (by kernel_rfl) h))) anil)) (acons (dadd (dsl (dv 4) so_none (so_some (dv 5))) (dv 6)) anil))))) (gn 7 sc_law_right.nd) (scons (sset 8 sc_law_right.nd (dcn D_table_says (hr.mono (by decide)) hA (acons (dv 1) (acons (dv 7) anil)))) (ssforget [7] (sone (sif (tand (tnotN (dv 8)) (tand1 (dcmpT op_gt opr_gt (dv 8) (dlen (m_len T) (acons (dv 3) anil)) (nomark _)))).pt (sone (sret (m := 1) (dx db))) snil)))) (fun R d i s nx bk h => Eq.mp (by kernel_rfl) h)) (sone (sret (m := 1) (dx db)))))))))))), fun as Q h => ?_⟩
  unfold S_law_right at h
  split at h
  · unfold q_law_right at h
    rename_i x0 x1 x2
    refine at_env (b := [.cel true x0, .dat x1, .dat x2, .un, .un, .un, .un, .un, .un, .un]) rfl ?_
    exact Eq.mp (by kernel_rfl) h
  · exact h.elim
theorem ok_law_right (T : Tp K mg) (D_law_take : Dn P w K mg base Tb "_law_take" 1 ["_law_pot_here", "_law_many"] S_law_take) (D_are_balances : Dn P w K mg base Tb "are_balances" 2 ["thing"] S_are_balances) (D_fewest_payments : Dn P w K mg base Tb "fewest_payments" 5 ["balances"] S_fewest_payments) (D_lots_table : Dn P w K mg base Tb "lots_table" 4 ["balances"] S_lots_table) (D_settles : Dn P w K mg base Tb "settles" 4 ["balances", "thing"] S_settles) (D_table_says : Dn P w K mg base Tb "table_says" 4 ["balances", "thing"] S_table_says) : Dn P w K mg base Tb "_law_right" 6 ["_law_pot_here", "_law_balances", "_law_paid"] S_law_right := by
  obtain ⟨kV, doc, pm, an, cdv, ct, Fn⟩ := T.fun_ "_law_right" (top 26) 17 53
  exact ⟨⟨_, fg_law_right T D_law_take D_are_balances D_fewest_payments D_lots_table D_settles D_table_says Fn, Fn.binds (ps := ["_law_pot_here", "_law_balances", "_law_paid"]) fun _ _ _ _ _ _ us hl => match us, hl with | [_, _, _], _ => rfl⟩, T.glo "_law_right" 34, T.keep "_law_right" 53⟩
def kk_law : RT → (PyData → Prop) := fun R v => R (.dat v) []
def em_law_1 (i : PyData) (s : Unit) : List SD := [.dat i, .un, .un, .un, .un, .un, .un, .un, .un, .un, .un, .un, .un]
def de_law_1 : List SD → Option ((PyData) × (Unit))
  | [.dat x0, .un, .un, .un, .un, .un, .un, .un, .un, .un, .un, .un, .un] => some (x0, ())
  | _ => none
theorem hde_law_1 : ∀ env i s, de_law_1 env = some (i, s) → env = em_law_1 i s := by
  intro env i s h
  unfold de_law_1 at h
  split at h
  · cases h; rfl
  · cases h
def em_law_2 (i : PyData × List PyData × PyData × PyData × PyData × PyData × PyData) (s : Unit) : List SD := [.dat i.1, .un, .cel false i.2.1, .dat i.2.2.1, .dat i.2.2.2.1, .dat i.2.2.2.2.1, .dat i.2.2.2.2.2.1, .dat i.2.2.2.2.2.2, .un, .un, .un, .un, .un]
def de_law_2 : List SD → Option ((PyData × List PyData × PyData × PyData × PyData × PyData × PyData) × (Unit))
  | [.dat x0, .un, .cel false x2, .dat x3, .dat x4, .dat x5, .dat x6, .dat x7, .un, .un, .un, .un, .un] => some ((x0, x2, x3, x4, x5, x6, x7), ())
  | _ => none
theorem hde_law_2 : ∀ env i s, de_law_2 env = some (i, s) → env = em_law_2 i s := by
  intro env i s h
  unfold de_law_2 at h
  split at h
  · cases h; rfl
  · cases h
def S_law : DSp := fun as Q => match as with
  | [.dat x0] => q_law x0 (kk_law Q)
  | _ => False
theorem len_law (as : List SD) (Q : SD → List SD → Prop) (h : S_law as Q) : as.length = 1 := by
  unfold S_law at h
  split at h
  · rfl
  · exact h.elim
theorem cels_law : CelsIn 0 S_law := by
  intro as Q h i p xs e
  unfold S_law at h
  split at h
  · exact absurd e (no_cel (ds := [_]) i p xs)
  · exact h.elim
def N_law : List Str := ["_law_script", "_law_k", "_law_pot_here", "_law_many", "_law_one", "_law_paid", "_law_other", "_law_more", "_law_further", "_law_both", "_law_payer", "_law_taker", "_law_pence"]
theorem sc_law : FnScope N_law ["_law_script"] (defScope (top 27)) := ⟨rfl, rfl, rfl, by decide +kernel, rfl, by decide +kernel, by decide +kernel⟩
theorem fg_law (T : Tp K mg) (D_law_drawn : Dn P w K mg base Tb "_law_drawn" 2 ["_law_pot_here", "_law_many"] S_law_drawn) (D_law_pot : Dn P w K mg base Tb "_law_pot" 1 ["_law_script", "_law_k"] S_law_pot) (D_law_right : Dn P w K mg base Tb "_law_right" 6 ["_law_pot_here", "_law_balances", "_law_paid"] S_law_right) (D_law_take : Dn P w K mg base Tb "_law_take" 1 ["_law_pot_here", "_law_many"] S_law_take) (D_fewest_payments : Dn P w K mg base Tb "fewest_payments" 5 ["balances"] S_fewest_payments) {fd : FuncData} (Fn : Fun K "law" "law" (top 27) (He.ga K "law") fd) : FnG P w K mg base Tb 7 (He.ga K "law") fd ["_law_script"] S_law := by
  refine dfn 0 Fn sc_law len_law cels_law fun cdv A outer s H hr hA => ⟨_, (scons (sforQ [1, 2, 3, 4, 5, 6, 7, 8, 9] de_law_1 em_law_1 kk_law qb_law_1 hde_law_1 PassesOwn.never rfl (irange1 (m_range T) (acons (dmax2 (m_max T) rfl (acons di (acons (dmin2 (m_min T) rfl (acons di (acons (dlen (m_len T) (acons (dv 0) anil)) anil))) anil))) anil)) (gn 1 sc_law.nd) (scons (sset 2 sc_law.nd (dcn D_law_pot (hr.mono (by decide)) hA (acons (dv 0) (acons (dv 1) anil)))) (scons (sset 3 sc_law.nd (dx (dadd di (dfrz (dcnC 2 D_law_take (hr.mono (by decide)) hA (acons di anil)))))) (scons (sasg (dfrz (dcnC 2 D_law_drawn (hr.mono (by decide)) hA (acons (dv 3) anil))) (gtup (gl_cons gok_n (gl_cons gok_n gl_nil)) rfl (gcons (gn 4 sc_law.nd) (gcons (gn 5 sc_law.nd) gnil)))) (scons (sasg (dfrz (dcnC 2 D_law_drawn (hr.mono (by decide)) hA (acons (dfrz (dcnC 2 D_law_take (hr.mono (by decide)) hA (acons (dsub di (dv 3)) anil))) anil))) (gtup (gl_cons gok_n (gl_cons gok_n gl_nil)) rfl (gcons (gn 6 sc_law.nd) (gcons (gn 7 sc_law.nd) gnil)))) (ssforget [1] (scons (sset 8 sc_law.nd (dx (dtupleOf (m_tuple T) (acons (dfrz (dlc (dec := de_law_2) (emb := em_law_2) (qb := qb_law_2) [("_law_payer", 10), ("_law_taker", 11), ("_law_pence", 12)] (.tup [10, 11, 12]) hde_law_2 rfl sc_law.nd (iseq (dv 7)) (blkOk_by (own := [("_law_payer", 10), ("_law_taker", 11), ("_law_pence", 12)]) (N := N_law) (sc := defScope (top 27)) (by decide +kernel)) (fun _ _ _ _ _ => pg_tup rfl (pgs_cons (pg_name (i := 10) sc_law.nd rfl (Or.inl rfl)) (pgs_cons (pg_name (i := 11) sc_law.nd rfl (Or.inl rfl)) (pgs_cons (pg_name (i := 12) sc_law.nd rfl (Or.inl rfl)) pgs_nil)))) (fun _ _ _ _ _ => tyes) (fun _ _ _ _ _ => (dtup (acons (dadd (dv 10) (dv 3)) (acons (dadd (dv 11) (dv 3)) (acons (dv 12) anil))))) (fun d i s sk yd h => Eq.mp (by kernel_rfl) h))) anil)))) (ssforget [3] (scons (sif (tor (tnot (dtest (dfrz (dcnC 2 D_law_right (hr.mono (by decide)) hA (acons (dv 4) (acons (dv 5) anil)))))) (tor1 (tnot (dtest (dfrz (dcnC 2 D_law_right (hr.mono (by decide)) hA (acons (dv 6) (acons (dv 7) anil)))))))).pt (sone (sret (m := 0) (dx db))) snil) (ssforget [7] (scons (sif (tnot (dtest (dfrz (dcnC 2 D_law_right (hr.mono (by decide)) hA (acons (dadd (dv 4) (dv 6)) (acons (dadd (dv 5) (dv 8)) anil)))))) (sone (sret (m := 0) (dx db))) snil) (scons (sset 9 sc_law.nd (dx (dadd (dlen (m_len T) (acons (dfrz (dcn D_fewest_payments (hr.mono (by decide)) hA (acons (dv 4) anil))) anil)) (dlen (m_len T) (acons (dfrz (dcn D_fewest_payments (hr.mono (by decide)) hA (acons (dv 6) anil))) anil))))) (ssforget [2, 5, 8] (sone (sif (dcmpT op_gt opr_gt (dlen (m_len T) (acons (dfrz (dcn D_fewest_payments (hr.mono (by decide)) hA (acons (dadd (dv 4) (dv 6)) anil))) anil)) (dv 9) (nomark _)) (sone (sret (m := 0) (dx db))) snil)))))))))))))) (fun R d i s nx bk h => Eq.mp (by kernel_rfl) h)) (sone (sret (m := 0) (dx db)))), fun as Q h => ?_⟩
  unfold S_law at h
  split at h
  · unfold q_law at h
    rename_i x0
    refine at_env (b := [.dat x0, .un, .un, .un, .un, .un, .un, .un, .un, .un, .un, .un, .un]) rfl ?_
    exact Eq.mp (by kernel_rfl) h
  · exact h.elim
theorem ok_law (T : Tp K mg) (D_law_drawn : Dn P w K mg base Tb "_law_drawn" 2 ["_law_pot_here", "_law_many"] S_law_drawn) (D_law_pot : Dn P w K mg base Tb "_law_pot" 1 ["_law_script", "_law_k"] S_law_pot) (D_law_right : Dn P w K mg base Tb "_law_right" 6 ["_law_pot_here", "_law_balances", "_law_paid"] S_law_right) (D_law_take : Dn P w K mg base Tb "_law_take" 1 ["_law_pot_here", "_law_many"] S_law_take) (D_fewest_payments : Dn P w K mg base Tb "fewest_payments" 5 ["balances"] S_fewest_payments) : Dn P w K mg base Tb "law" 7 ["_law_script"] S_law := by
  obtain ⟨kV, doc, pm, an, cdv, ct, Fn⟩ := T.fun_ "law" (top 27) 18 54
  exact ⟨⟨_, fg_law T D_law_drawn D_law_pot D_law_right D_law_take D_fewest_payments Fn, Fn.binds (ps := ["_law_script"]) fun _ _ _ _ _ _ us hl => match us, hl with | [_], _ => rfl⟩, T.glo "law" 35, T.keep "law" 54⟩
theorem law_imp (as : List SD) (Q : SD → List SD → Prop) (h : lawS 63 as Q) : S_law as Q := by
  unfold lawS at h
  split at h
  · obtain ⟨⟨ns, rfl, hn⟩, h⟩ := h
    exact the_law ns hn _ (h [])
  · exact h.elim

end
theorem facts {P : Program} {w : World} {K : PySem.W.Frag} {h : Heap} {mg : Str → Option Value} {f : Addr} (X : K.In h) (G : h.Ns mainGlobals mg) (hfa : mg ("law" : Str) = some (.ref f)) (c : He.SaysE fa fn K) (cx : FxSays fx K) :
    ∃ fd : FuncData, (∀ (s : Shared) (v : Value), BindsTo s fd ⟨[v], []⟩ [("_law_script", v)]) ∧ ∀ base : Heap, K.In base → base.Ns mainGlobals mg → SysD base → FnG P w K mg base [] 7 f fd ["_law_script"] (lawS 63) := by
  have T : Tp K mg := ⟨⟨c, h, X, G⟩, cx⟩
  have e := hfa.symm.trans (T.glo "law" 35)
  cases e
  obtain ⟨kV, doc, pm, an, cdv, ct, Fn⟩ := T.fun_ "law" (top 27) 18 54
  refine ⟨PySem.W.fnOf "law" "law" (defArgs (top 27)) (defBody (top 27)) (defScope (top 27)) .none kV doc pm an cdv ct, fun s v => .of_eq rfl, fun base _ _ BD => ?_⟩
  haveI : SysB base := ⟨BD⟩
  have D_is_whole : Dn P w K mg base [] "is_whole" 1 ["thing"] S_is_whole := ok_is_whole T 
  have D_are_balances : Dn P w K mg base [] "are_balances" 2 ["thing"] S_are_balances := ok_are_balances T D_is_whole
  have D_need_balances : Dn P w K mg base [] "need_balances" 3 ["thing"] S_need_balances := ok_need_balances T D_are_balances
  have D_is_payment : Dn P w K mg base [] "is_payment" 2 ["many", "thing"] S_is_payment := ok_is_payment T D_is_whole
  have D_settles : Dn P w K mg base [] "settles" 4 ["balances", "thing"] S_settles := ok_settles T D_is_payment D_need_balances
  have D_places_of : Dn P w K mg base [] "places_of" 1 ["number", "many"] S_places_of := ok_places_of T 
  have D_is_even : Dn P w K mg base [] "is_even" 2 ["balances", "number"] S_is_even := ok_is_even T D_places_of
  have D_table_of : Dn P w K mg base [] "table_of" 3 ["balances"] S_table_of := ok_table_of T D_is_even D_places_of
  have D_lots_of : Dn P w K mg base [] "lots_of" 4 ["balances"] S_lots_of := ok_lots_of T D_is_even D_places_of D_table_of
  have D_paid_within : Dn P w K mg base [] "paid_within" 1 ["balances", "lot"] S_paid_within := ok_paid_within T 
  have D_fewest_payments : Dn P w K mg base [] "fewest_payments" 5 ["balances"] S_fewest_payments := ok_fewest_payments T D_lots_of D_need_balances D_paid_within
  have D_lots_table : Dn P w K mg base [] "lots_table" 4 ["balances"] S_lots_table := ok_lots_table T D_need_balances D_table_of
  have D_is_above : Dn P w K mg base [] "is_above" 3 ["balances", "thing", "number"] S_is_above := ok_is_above T D_is_even D_places_of
  have D_table_says : Dn P w K mg base [] "table_says" 4 ["balances", "thing"] S_table_says := ok_table_says T D_is_above D_is_whole D_need_balances
  have D_law_pot : Dn P w K mg base [] "_law_pot" 1 ["_law_script", "_law_k"] S_law_pot := ok_law_pot T 
  have D_law_take : Dn P w K mg base [] "_law_take" 1 ["_law_pot_here", "_law_many"] S_law_take := ok_law_take T 
  have D_law_drawn : Dn P w K mg base [] "_law_drawn" 2 ["_law_pot_here", "_law_many"] S_law_drawn := ok_law_drawn T D_law_take
  have D_law_right : Dn P w K mg base [] "_law_right" 6 ["_law_pot_here", "_law_balances", "_law_paid"] S_law_right := ok_law_right T D_law_take D_are_balances D_fewest_payments D_lots_table D_settles D_table_says
  exact (fg_law T D_law_drawn D_law_pot D_law_right D_law_take D_fewest_payments Fn).imp law_imp
end K82
open PySem PySem.W PySem.Calls PyProof.Rows
set_option maxHeartbeats 0 in
theorem PySem.Challenge.cw_prizelog_k82_whole_no_fewer_payments_holds : PySem.Challenge.rw_prizelog_k82_whole_no_fewer_payments.Holds := by
  w_on; o_law
  refine HandSHeadRun.head_any (r := K82.R) (q := view K82.R.prog [27]) (H := K82.hk) (ob := K82.ob) (M := 20000) (loose := K82.loose) (d := HandSHeadRun.topDef K82.R.prog 27) (kwd := []) K82.ob_eq
    (by kernel_rfl) (fun s => by kernel_rfl) K82.run (by kernel_rfl) (by kernel_rfl) (by kernel_rfl) (by rfl) (by first | assumption | decide +kernel) (by decide +kernel) ⟨rfl, rfl, rfl, rfl, rfl, by decide +kernel⟩ ?hw ?hc
  case hw => w_witness2
  case hc =>
    refine DL.walk_dataE (l := PySem.Challenge.rw_prizelog_k82_whole_no_fewer_payments) (n := 63) (k := 7) (x := "_law_script") rfl (by decide) (by kernel_rfl) ⟨rfl, by decide, by decide⟩ ?F
    intro w mg fa h Y G hmg0
    obtain ⟨⟨K, KX, c, cx⟩, hsys⟩ := Y
    have hmg : mg ("law" : PySem.Str) = some (.ref fa) := by
      have e : (HandSHeadRun.topDef K82.R.prog 27).name = ("law" : PySem.Str) := by kernel_rfl
      rw [← e]
      exact hmg0
    obtain ⟨fd, hb, hF⟩ := K82.facts (P := (PySem.Challenge.rw_prizelog_k82_whole_no_fewer_payments).prog) (w := w) KX G hmg c cx
    exact ⟨K, fd, KX, hsys, hb, hF⟩
