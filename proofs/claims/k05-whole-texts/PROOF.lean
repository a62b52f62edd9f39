import PyProof.Rows.All
import Wide.All
import OpenK.AllK
import Wide.FinOn
import HandS.ForMost
import HandS.Codes
import HandS.Words
import HandS.Defaults
import KE.KStateDown
import Lean
import HandS.Base
import HandS.Call
import HandS.Ends
import HandS.More
import HandS.WordsExc
import HandS.ExcInit
import HandS.ExcField
import HandS.Property
import HandS.ClsMeth
import HandS.Head0
import HandS.Head1
import HandS.Head2
import HandS.HeadEnd
import HandS.HeadHook1
import HandS.HeadHook2
import HandS.HeadHook3
import HandS.IsInst
import HandS.OwnEq
import KE.KUnpackStar
import KE.GoesComp
import HandS.Exc
import HandS.Comp
import HandS.TryMany
import HandS.Walk
import HandS.TupAny
import HandS.Star
import HandS.RaiseMore
import HandS.Zip
import KE.IntTextLaws
import HandS.MakeKwOnly
import PyProof.P3Eq
import HandS.FStr
import HandS.NoneIn
import PyProof.NeKinds
import HandS.Style
import HandS.ExcOwn
import PySem.Challenge.RW_homefrees_k05_whole_texts_of_machines
set_option Elab.async false
set_option linter.all false
set_option maxRecDepth 100000
section
set_option maxHeartbeats 4000000
/-! Hm: the mirror: what both readings of a text say, over texts. -/
namespace Hf
open PySem L2

abbrev sp : Str := " "
abbrev nl : Str := "\n"
/-- a number of a line, or none -/
def digC (c : Nat) : Bool := decide (c ∈ ("0123456789" : Str).cps.toList)
def parseNum (w : Str) : Option Int :=
  if w = "" ∨ 9 < w.length ∨ w.cps.toList.all digC = false then none
  else if w = "0" ∨ ¬ w.cps.toList.head? = some 48 then intText? w else none
def wordOf (line : Str) : Str := (Txt.split line sp).headD ""
def tailOf (line : Str) : List Str := (Txt.split line sp).tail
def numsOf (line : Str) : List (Option Int) := (tailOf line).map parseNum
def allSome : List (Option Int) → Option (List Int)
  | [] => some []
  | none :: _ => none
  | some i :: r => (allSome r).map (i :: ·)
/-- a line of a word and one to so many numbers -/
def numbersOf (line word : Str) (most : Nat) : Option (List Int) :=
  if wordOf line = word ∧ 1 ≤ (tailOf line).length ∧ (tailOf line).length ≤ most then allSome (numsOf line) else none
abbrev Op := Str × List Int
def opBounds (w : Str) : Option (List (Int × Int)) :=
  if w = "alloc" then some [(0, 2), (0, 7)] else if w = "free" then some [(0, 7)] else if w = "adopt" then some [(0, 7)]
  else if w = "large" then some [(1, 8), (0, 7)] else if w = "grow" then some [(0, 7)] else if w = "drain" then some [] else none
def inB (o : Option Int) (a b : Int) : Bool := match o with
  | none => false
  | some n => decide (a ≤ n) && decide (n ≤ b)
def isOpB (w : Str) (ns : List (Option Int)) : Bool := match opBounds w with
  | none => false
  | some bs => decide (ns.length = bs.length) && (ns.zip bs).all fun p => inB p.1 p.2.1 p.2.2
def opOf (line : Str) : Option Op := if isOpB (wordOf line) (numsOf line) = true then (allSome (numsOf line)).map fun ns => (wordOf line, ns) else none

/-! ### machines -/
abbrev Thr := Int × List Op
structure Sett where
  sockets : Int
  classes : List Int
  threads : List Thr
  pages : Int
  batch : Int
  spare : Int
  slots : Int
  stops : Int
  fault : Option Str
def okClasses (ns : List Int) : Bool := decide (1 ≤ ns.length) && decide (ns.length ≤ 3) && ns.all fun n => inB (some n) 1 8
def fitsB (kinds slots : Int) (o : Op) : Bool :=
  isOpB o.1 (o.2.map some) && !(decide (o.1 = "alloc") && decide (kinds ≤ o.2.headD 0)) && (decide (o.1 = "drain") || decide (o.2.getLastD 0 < slots))
def threadB (sockets kinds slots : Int) (t : Thr) : Bool := inB (some t.1) 0 (sockets - 1) && (decide (t.2.length ≤ 30) && t.2.all (fitsB kinds slots))
def most8 (slots : Int) : Int := if inB (some slots) 1 8 = true then slots else 8
def firstBad : List (Str × Int × Int × Int) → Option Str
  | [] => none
  | (n, v, a, b) :: r => if inB (some v) a b = true then firstBad r else some n
def machineErr (s : Sett) : Option Str :=
  if inB (some s.sockets) 1 4 = false then some "sockets"
  else if okClasses s.classes = false then some "classes"
  else if ¬ (1 ≤ s.threads.length ∧ s.threads.length ≤ 6) then some "threads"
  else if s.threads.all (threadB s.sockets s.classes.length (most8 s.slots)) = false then some "threads"
  else firstBad [("pages", s.pages, 1, 64), ("batch", s.batch, 1, 8), ("spare", s.spare, 0, 8), ("slots", s.slots, 1, 8), ("stops", s.stops, 0, 6)]

/-! ### reading -/
def heads : List Str := ["sockets", "classes", "pages", "batch", "spare", "slots", "stops"]
def mostOf (w : Str) : Nat := if w = "classes" then 3 else 1
def readHeads (rows : List Str) : Nat → List Str → Except Nat (List (List Int))
  | _, [] => .ok []
  | p, w :: ws => match (rows[p]?).bind fun l => numbersOf l w (mostOf w) with
    | none => .error (p + 1)
    | some ns => match readHeads rows (p + 1) ws with
      | .error e => .error e
      | .ok r => .ok (ns :: r)
def faults : List Str := ["take", "fill", "batches"]
def readFault (rows : List Str) (p : Nat) : Except Nat (Option Str × Nat) := match rows[p]? with
  | none => .ok (none, p)
  | some l => if wordOf l = "fault" then (match tailOf l with
    | [x] => if x ∈ faults then .ok (some x, p + 1) else .error (p + 1)
    | _ => .error (p + 1)) else .ok (none, p)
/-- the last thread's program grows -/
def addOp (o : Op) : List Thr → List Thr
  | [] => []
  | [t] => [(t.1, t.2 ++ [o])]
  | t :: r => t :: addOp o r
def readThreads : List Str → Nat → List Thr → Except Nat (List Thr)
  | [], _, acc => .ok acc
  | l :: r, p, acc => if wordOf l = "thread" then (match numbersOf l "thread" 1 with
      | none => .error (p + 1)
      | some ns => readThreads r (p + 1) (acc ++ [(ns.headD 0, [])]))
    else match opOf l with
      | none => .error (p + 1)
      | some o => if acc = [] then .error (p + 1) else readThreads r (p + 1) (addOp o acc)
def settOf (hs : List (List Int)) (ths : List Thr) (k : Option Str) : Sett :=
  { sockets := (hs.getD 0 []).headD 0, classes := hs.getD 1 [], threads := ths, pages := (hs.getD 2 []).headD 0, batch := (hs.getD 3 []).headD 0, spare := (hs.getD 4 []).headD 0,
    slots := (hs.getD 5 []).headD 0, stops := (hs.getD 6 []).headD 0, fault := k }
def readM (rows : List Str) : Except Nat Sett := match readHeads rows 0 heads with
  | .error e => .error e
  | .ok hs => match readFault rows 7 with
    | .error e => .error e
    | .ok (k, p) => match readThreads (rows.drop p) p [] with
      | .error e => .error e
      | .ok ths => .ok (settOf hs ths k)
inductive Said where
  | line (n : Nat)
  | mach (nm : Str)
  | ok (s : Sett)
def saidOf (rows : List Str) : Said := match readM rows with
  | .error n => .line n
  | .ok s => match machineErr s with
    | some nm => .mach nm
    | none => .ok s
/-- no line is the head of a block -/
def NoRep (rows : List Str) : Prop := ∀ l ∈ rows, wordOf l ≠ "repeat"

/-! ### as data -/
def opD (o : Op) : PyData := .tuple (.str o.1 :: o.2.map .int)
def thrD (t : Thr) : PyData := .tuple [.int t.1, .tuple (t.2.map opD)]
def optD : Option Str → PyData
  | none => .none
  | some x => .str x
def setD (s : Sett) : PyData := .tuple [.int s.sockets, .tuple (s.classes.map .int), .tuple (s.threads.map thrD), .int s.pages, .int s.batch, .int s.spare, .int s.slots, .int s.stops, optD s.fault]
def numV : Option Int → V
  | none => .non
  | some i => .int i
def optV : Option Str → V
  | none => .non
  | some x => .str x

/-! ### small laws -/
theorem allSome_map : ∀ {l : List (Option Int)} {ns : List Int}, allSome l = some ns → l = ns.map some
  | [], ns, h => by
    have e : ns = [] := (Option.some.inj h).symm
    rw [e] <;> rfl
  | none :: r, ns, h => by cases h
  | some i :: r, ns, h => by
    have h2 : (allSome r).map (i :: ·) = some ns := h
    cases q : allSome r with
    | none =>
      rw [q] at h2
      cases h2
    | some ms =>
      rw [q] at h2
      have e : i :: ms = ns := Option.some.inj h2
      rw [← e, allSome_map q] <;> rfl
theorem allSome_some : ∀ ns : List Int, allSome (ns.map some) = some ns
  | [] => rfl
  | i :: r => by
    show (allSome (r.map some)).map (i :: ·) = some (i :: r)
    rw [allSome_some r] <;> rfl
theorem allSome_none : ∀ {l : List (Option Int)}, none ∈ l → allSome l = none
  | [], h => by cases h
  | none :: r, _ => rfl
  | some i :: r, h => by
    have h2 : none ∈ r := by
      rcases List.mem_cons.mp h with e | e
      · cases e
      · exact e
    show (allSome r).map (i :: ·) = none
    rw [allSome_none h2] <;> rfl
theorem allSome_of : ∀ {l : List (Option Int)}, ¬ none ∈ l → ∃ ns, allSome l = some ns
  | [], _ => ⟨[], rfl⟩
  | none :: r, h => absurd (List.mem_cons_self) h
  | some i :: r, h => by
    obtain ⟨ns, e⟩ := allSome_of (l := r) fun z => h (List.mem_cons_of_mem _ z)
    refine ⟨i :: ns, ?_⟩
    show (allSome r).map (i :: ·) = some (i :: ns)
    rw [e] <;> rfl
theorem inB_some {o : Option Int} {a b : Int} (h : inB o a b = true) : ∃ i, o = some i := by
  cases o with
  | none => cases h
  | some i => exact ⟨i, rfl⟩
theorem zip_no {bs : List (Int × Int)} : ∀ {ns : List (Option Int)}, ns.length = bs.length → ((ns.zip bs).all fun p => inB p.1 p.2.1 p.2.2) = true → ¬ none ∈ ns := by
  induction bs with
  | nil =>
    intro ns hl _ hm
    have e : ns = [] := List.length_eq_zero_iff.mp hl
    rw [e] at hm
    cases hm
  | cons b bs ih =>
    intro ns hl h hm
    cases ns with
    | nil => cases hm
    | cons o r =>
      rw [List.zip_cons_cons, List.all_cons, Bool.and_eq_true] at h
      rcases List.mem_cons.mp hm with e | e
      · rw [← e] at h
        exact absurd (show false = true from h.1) Bool.false_ne_true
      · exact ih (by simpa using hl) h.2 e
theorem isOp_no {w : Str} {ns : List (Option Int)} (h : isOpB w ns = true) : ¬ none ∈ ns := by
  unfold isOpB at h
  split at h
  · cases h
  · rw [Bool.and_eq_true, decide_eq_true_eq] at h
    exact zip_no h.1 h.2
/-- an operation's line: its numbers -/
theorem opOf_some {l : Str} (h : isOpB (wordOf l) (numsOf l) = true) : ∃ ns, opOf l = some (wordOf l, ns) ∧ numsOf l = ns.map some := by
  obtain ⟨ns, e⟩ := allSome_of (isOp_no h)
  refine ⟨ns, ?_, allSome_map e⟩
  unfold opOf
  rw [if_pos h, e] <;> rfl
theorem opOf_none {l : Str} (h : isOpB (wordOf l) (numsOf l) = false) : opOf l = none := by
  unfold opOf
  rw [if_neg (by rw [h]; exact Bool.false_ne_true)]
end Hf
end
section
set_option maxHeartbeats 4000000
/-! Tx: the text by places. -/
namespace Hf
open PySem L2
def top (i : Nat) : Stmt := PySem.Challenge.pw_homefrees_k05_whole_texts_of_machines.main.body.getD i (.Pass ⟨0, 0, 0, 0⟩)
abbrev sIM : Stmt := inClass (top 3) 0
abbrev sPE : Stmt := inClass (top 4) 0
abbrev sIsInt : Stmt := top 11
abbrev sBetween : Stmt := top 12
abbrev sIsRow : Stmt := top 13
abbrev sIsOp : Stmt := top 14
abbrev sLineText : Stmt := top 15
abbrev sParseNum : Stmt := top 16
abbrev sParseItem : Stmt := top 17
abbrev sIsClasses : Stmt := top 29
abbrev sFits : Stmt := top 30
abbrev sIsThread : Stmt := top 31
abbrev sMInit : Stmt := inClass (top 32) 0
abbrev sMprop (i : Nat) : Stmt := inClass (top 32) (i + 1)
abbrev sMEq : Stmt := inClass (top 32) 16
abbrev sMText : Stmt := top 39
abbrev sRInit : Stmt := inClass (top 40) 0
abbrev sRFail : Stmt := inClass (top 40) 1
abbrev sRItem : Stmt := inClass (top 40) 2
abbrev sRNums : Stmt := inClass (top 40) 3
abbrev sRFault : Stmt := inClass (top 40) 4
abbrev sRProg : Stmt := inClass (top 40) 5
abbrev sRAll : Stmt := inClass (top 40) 7
abbrev sParse : Stmt := top 41
abbrev sPool : Stmt := top 43
abbrev sTake : Stmt := top 44
abbrev sLProg : Stmt := top 45
abbrev sLSett : Stmt := top 46
abbrev sLText : Stmt := top 47
abbrev sLNums : Stmt := top 48
abbrev sLOp : Stmt := top 49
abbrev sLRead : Stmt := top 50
abbrev sLBuilt : Stmt := top 51
abbrev sLSaid : Stmt := top 52
abbrev sLBent : Stmt := top 53
abbrev sLaw : Stmt := top 54
/-- a def of the module, under its name -/
abbrev FnP (K : PySem.W.Frag) (x : Str) (st : Stmt) (f : Addr) (fd : FuncData) : Prop := FunD K x x (defArgs st) (defBody st) (defScope st) [] [] f fd
/-- a method -/
abbrev FnM (K : PySem.W.Frag) (x q : Str) (st : Stmt) (f : Addr) (fd : FuncData) : Prop := FunD K x q (defArgs st) (defBody st) (defScope st) [] [] f fd
end Hf
end
section
set_option maxHeartbeats 4000000
/-! Hk: the head's facts of this program, read by a hook of our own. -/
namespace Hf
open PySem PySem.Spec PyProof.Rows L2
/-! ### places -/
abbrev Pl := PySem.W.Frag → Addr
def gA (x : Str) : Pl := fun K => He.ga K x
def mA (x m : Str) : Pl := fun K => He.ma K (He.ga K x) m
/-- the getter of the property f of the class x -/
def pA (x f : Str) : Pl := fun K => match PySem.W.recIn K (mA x f K) "property" with
  | some (.ref g :: _) => g
  | _ => 0
/-- one def -/
structure DefX where
  at_ : Pl
  name : Str
  qual : Str
  params : Arguments
  body : List Stmt
  scope : Scope
  kwd : List (Str × V) := []
def fnX (K : PySem.W.Frag) (a : Addr) : He.FnW := match K.lookup a with
  | some ⟨_, _, .func fd, _⟩ => some (fd.name, fd.qualname, fd.params, fd.body, fd.scope, fd.globals, fd.closure, fd.builtins)
  | _ => none
def DefX.val (d : DefX) : He.FnW := some (d.name, d.qual, d.params, .stmts d.body, d.scope, mainGlobals, [], builtinsNs)
def DefX.ok (K : PySem.W.Frag) (d : DefX) : Bool := PySem.W.keepIn K (.ref (d.at_ K)) && (match K.lookup (d.at_ K) with
  | some ⟨_, _, .func fd, _⟩ => PySem.W.codeIn K fd.code d.qual && (He.dflB K fd.defaults [] && He.kwdB K fd.kwdefaults d.kwd)
  | _ => false)
theorem DefX.funD {K : PySem.W.Frag} {d : DefX} (e : fnX K (d.at_ K) = d.val) (c : d.ok K = true) : ∃ fd, FunD K d.name d.qual d.params d.body d.scope [] d.kwd (d.at_ K) fd := by
  obtain ⟨kp, c2⟩ := He.ba c
  unfold fnX at e
  cases q : K.lookup (d.at_ K) with
  | none =>
    rw [q] at c2
    cases c2
  | some o =>
    obtain ⟨oc, od, dt, osl⟩ := o
    rw [q] at c2 e
    cases dt with
    | func fd =>
      obtain ⟨n1, n2, n3, n4, n5, n6, n7, n8, n9, n10, n11, n12, n13, n14, n15⟩ := fd
      have e2 : (some (n1, n2, n3, n4, n5, n6, n7, n15) : He.FnW) = some (d.name, d.qual, d.params, .stmts d.body, d.scope, mainGlobals, [], builtinsNs) := e
      simp only [Option.some.injEq, Prod.mk.injEq] at e2
      obtain ⟨h1, h2, h3, h4, h5, h6, h7, h8⟩ := e2
      subst h1 h2 h3 h4 h5 h6 h7 h8
      have c3 : (PySem.W.codeIn K n13 d.qual && (He.dflB K n8 [] && He.kwdB K n9 d.kwd)) = true := c2
      obtain ⟨k1, k2⟩ := He.ba c3
      obtain ⟨k3, k4⟩ := He.ba k2
      exact ⟨_, ⟨oc, od, n8, n9, n10, n11, n12, n13, n14, osl, rfl, q, k1, He.dflB_ok k3, He.kwdB_ok k4⟩, kp⟩
    | _ => cases c2
/-! ### the hook -/
def asH (g : Addr → Option Obj) : Nat → List Addr
  | 0 => [mainGlobals, cStatics]
  | n + 1 => He.growD g (asH g n)
abbrev AlH : Type := (Bool × List He.FnW) × Option (List (Option (Str × Int)))
def obsH (fa : List (PySem.W.Frag → Bool)) (fn : List DefX) (tb : Pl) (K : PySem.W.Frag) : AlH := (((fa.all fun f => f K) && fn.all fun d => d.ok K, fn.map fun d => fnX K (d.at_ K)), He.dicW K (tb K))
def valH (fn : List DefX) (ks : List Str) (w : World) : AlH := ((true, fn.map DefX.val), some (He.keysIn w.params ks))
def SaysH (fa : List (PySem.W.Frag → Bool)) (fn : List DefX) (tb : Pl) (ks : List Str) (w : World) (K : PySem.W.Frag) : Prop := obsH fa fn tb K = valH fn ks w
def obsHG (n : Nat) (fa : List (PySem.W.Frag → Bool)) (fn : List DefX) (tb : Pl) (g : Addr → Option Obj) : AlH := obsH fa fn tb (He.frG g (asH g n))
def hookH (n : Nat) (fa : List (PySem.W.Frag → Bool)) (fn : List DefX) (tb : Pl) (ks : List Str) : PySem.W.Hook where
  α := AlH
  obs := fun s => obsHG n fa fn tb s.heap.get?
  val := fun w => valH fn ks w
  says := fun w h => ∃ K : PySem.W.Frag, K.In h ∧ SaysH fa fn tb ks w K
  of := fun _ _ e => ⟨_, He.frG_in, e⟩
  keeps := fun _ _ _ ⟨K, hK, c⟩ k => ⟨K, PySem.W.Frag.In.keeps hK k, c⟩
theorem obsHG_eq {n : Nat} {fa : List (PySem.W.Frag → Bool)} {fn : List DefX} {tb : Pl} {ks : List Str} {g : Addr → Option Obj} {s : Shared} (h : ∀ a, g a = s.heap.get? a) : obsHG n fa fn tb g = (hookH n fa fn tb ks).obs s := by
  have e : g = s.heap.get? := funext h
  rw [e] <;> rfl
section
variable {fa : List (PySem.W.Frag → Bool)} {fn : List DefX} {tb : Pl} {ks : List Str} {w : World} {K : PySem.W.Frag}
theorem SaysH.fact (c : SaysH fa fn tb ks w K) (i : Nat) {f : PySem.W.Frag → Bool} (h : fa[i]? = some f := by rfl) : f K = true := by
  have c1 := (He.ba (show ((fa.all fun f => f K) && fn.all fun d => d.ok K) = true from congrArg (fun z : AlH => z.1.1) c)).1
  exact List.all_eq_true.mp c1 f (List.mem_of_getElem? h)
theorem SaysH.def_ (c : SaysH fa fn tb ks w K) (i : Nat) {d : DefX} (h : fn[i]? = some d := by rfl) : ∃ fd, FunD K d.name d.qual d.params d.body d.scope [] d.kwd (d.at_ K) fd := by
  have c2 := (He.ba (show ((fa.all fun f => f K) && fn.all fun d => d.ok K) = true from congrArg (fun z : AlH => z.1.1) c)).2
  have e : fn.map (fun d => fnX K (d.at_ K)) = fn.map DefX.val := congrArg (fun z : AlH => z.1.2) c
  have e2 : (fn.map fun d => fnX K (d.at_ K))[i]? = (fn.map DefX.val)[i]? := by rw [e]
  rw [List.getElem?_map, List.getElem?_map, h] at e2
  exact DefX.funD (Option.some.inj e2) (List.all_eq_true.mp c2 d (List.mem_of_getElem? h))
theorem SaysH.tab (c : SaysH fa fn tb ks w K) : ∃ es n, KDict K w (tb K) es n := He.dicW_ok (congrArg (fun z : AlH => z.2) c)
end
end Hf
end
section
set_option maxHeartbeats 4000000
/-! Hf1: what the walk leans on (Txt), out of looks at the written part. -/
namespace Hf
open PySem PySem.Spec PyProof.Rows L2
abbrev Fg := PySem.W.Frag
/-! ### own error classes -/
def oexB (K : Fg) (C fI : Addr) (f : Str) : Bool := (match K.lookup C with
  | some ⟨.type "type", _, .cls cd, sl⟩ => (match cd.mro, sl.toList with
    | .ref C' :: bm, [_, _, _, _, some (.builtin n), _] => decide (C' = C) && (decide (n = "ValueError.__new__") && (!cd.hasDel && (cd.hasDict && PySem.HandSPX.refsVE bm)))
    | _, _ => false)
  | _ => false) && (decide (PySem.W.findIn K (.ref C) "__setattr__" = some (some (.builtin "object.__setattr__"))) && (decide (PySem.W.subIn K (.ref C) (.type "BaseException") = some true) && (decide (PySem.W.typeIn K (.ref C) = some (.type "type")) &&
    (PySem.W.keepIn K (.ref C) && (decide (PySem.W.findIn K (.ref C) "__init__" = some (some (.ref fI))) && (decide (PySem.W.typeIn K (.ref fI) = some (.type "function")) && (decide (PySem.W.findIn K (.ref C) f = some none) && xfB K C)))))))
structure OexT (K : Fg) (C fI : Addr) (f : Str) : Prop where
  oc : OexC K C
  ini : PySem.W.findIn K (.ref C) "__init__" = some (some (.ref fI))
  tyI : PySem.W.typeIn K (.ref fI) = some (.type "function")
  no : PySem.W.findIn K (.ref C) f = some none
  xf : XfC K C
theorem oexB_ok {K : Fg} {C fI : Addr} {f : Str} (h : oexB K C fI f = true) : OexT K C fI f := by
  unfold oexB at h
  obtain ⟨h0, h⟩ := He.ba h
  obtain ⟨h1, h⟩ := He.ba h
  obtain ⟨h2, h⟩ := He.ba h
  obtain ⟨h3, h⟩ := He.ba h
  obtain ⟨h4, h⟩ := He.ba h
  obtain ⟨h5, h⟩ := He.ba h
  obtain ⟨h6, h⟩ := He.ba h
  obtain ⟨h7, h8⟩ := He.ba h
  refine ⟨⟨?_, of_decide_eq_true h1, of_decide_eq_true h2, of_decide_eq_true h3, h4⟩, of_decide_eq_true h5, of_decide_eq_true h6, of_decide_eq_true h7, xfB_ok h8⟩
  split at h0
  · rename_i dd cd sl ho
    split at h0
    · rename_i C' bm k0 k1 k2 k3 n k5 hm hs
      obtain ⟨e1, h0⟩ := He.ba h0
      obtain ⟨e2, h0⟩ := He.ba h0
      obtain ⟨e3, h0⟩ := He.ba h0
      obtain ⟨e4, e5⟩ := He.ba h0
      have e1 := of_decide_eq_true e1
      have e2 := of_decide_eq_true e2
      obtain ⟨nm, bs, mro, ns, qn, hd, sn, sub, ab, col, del⟩ := cd
      dsimp only at hm e3 e4
      have e3 : del = false := by
        cases del with
        | false => rfl
        | true => cases e3
      subst hm e1 e2 e3 e4
      have hsl : sl = #[k0, k1, k2, k3, some (.builtin "ValueError.__new__"), k5] := by
        obtain ⟨l⟩ := sl
        simp only at hs
        rw [hs]
      subst hsl
      exact ⟨nm, qn, ns, bs, bm, sn, sub, ab, col, dd, k0, k1, k2, k3, k5, ho, e5⟩
    · cases h0
  · cases h0
end Hf
end
section
set_option maxHeartbeats 4000000
/-! Tt: what the walk leans on (Txt), out of looks at the written part. -/
namespace Hf
open PySem PySem.Spec PyProof.Rows L2
/-! ### the defs -/
def dG (x : Str) (st : Stmt) : DefX := ⟨gA x, x, x, defArgs st, defBody st, defScope st, []⟩
def dM (c m q : Str) (st : Stmt) : DefX := ⟨mA c m, m, q, defArgs st, defBody st, defScope st, []⟩
def dP (c m q : Str) (st : Stmt) : DefX := ⟨pA c m, m, q, defArgs st, defBody st, defScope st, []⟩
def kwM : List (Str × V) := [("pages", .int 4), ("batch", .int 1), ("spare", .int 0), ("slots", .int 2), ("stops", .int 0), ("fault", .non)]
def fns : List DefX := [
  dM "InvalidMachine" "__init__" "InvalidMachine.__init__" sIM, dM "ParseError" "__init__" "ParseError.__init__" sPE,
  dG "is_integer" sIsInt, dG "is_between" sBetween, dG "is_row" sIsRow, dG "is_operation" sIsOp, dG "line_text" sLineText, dG "parse_number" sParseNum, dG "parse_item" sParseItem,
  dG "is_classes" sIsClasses, dG "fits" sFits, dG "is_thread" sIsThread,
  ⟨mA "Machine" "__init__", "__init__", "Machine.__init__", defArgs sMInit, defBody sMInit, defScope sMInit, kwM⟩,
  dP "Machine" "sockets" "Machine.sockets" (sMprop 0), dP "Machine" "classes" "Machine.classes" (sMprop 1), dP "Machine" "threads" "Machine.threads" (sMprop 2), dP "Machine" "pages" "Machine.pages" (sMprop 3),
  dP "Machine" "batch" "Machine.batch" (sMprop 4), dP "Machine" "spare" "Machine.spare" (sMprop 5), dP "Machine" "slots" "Machine.slots" (sMprop 6), dP "Machine" "stops" "Machine.stops" (sMprop 7), dP "Machine" "fault" "Machine.fault" (sMprop 8),
  dM "Machine" "__eq__" "Machine.__eq__" sMEq,
  dG "machine_text" sMText,
  dM "LineReader" "__init__" "LineReader.__init__" sRInit, dM "LineReader" "fail" "LineReader.fail" sRFail, dM "LineReader" "item" "LineReader.item" sRItem, dM "LineReader" "read_numbers" "LineReader.read_numbers" sRNums,
  dM "LineReader" "fault_word" "LineReader.fault_word" sRFault, dM "LineReader" "program" "LineReader.program" sRProg, dM "LineReader" "all_threads" "LineReader.all_threads" sRAll,
  dG "parse_machine" sParse,
  dG "_law_pool" sPool, dG "_law_take" sTake, dG "_law_program" sLProg, dG "_law_settings" sLSett, dG "_law_text" sLText, dG "_law_numbers" sLNums, dG "_law_operation" sLOp, dG "_law_read" sLRead, dG "_law_built" sLBuilt,
  dG "_law_said" sLSaid, dG "_law_bent" sLBent, dG "law" sLaw]
/-! ### the names -/
def frees : List Str := ["isinstance", "int", "bool", "list", "tuple", "str", "len", "all", "zip", "range", "max", "min"]
def intsM : List (Str × Int) := [("MAX_DIGITS", 9), ("MAX_SOCKETS", 4), ("MAX_CLASSES", 3), ("MAX_BLOCKS", 8), ("MAX_THREADS", 6), ("MAX_OPERATIONS", 30), ("MAX_PAGES", 64), ("MAX_BATCH", 8), ("MAX_SPARE", 8), ("MAX_SLOTS", 8), ("MAX_STOPS", 6)]
def glos : List Str := ["HeapError", "InvalidMachine", "ParseError", "BOUNDS", "HEADS", "FAULTS", "Machine", "LineReader", "is_integer", "is_between", "is_row", "is_operation", "line_text", "parse_number", "parse_item", "is_classes", "fits", "is_thread", "machine_text", "parse_machine",
  "_law_pool", "_law_take", "_law_program", "_law_settings", "_law_text", "_law_numbers", "_law_operation", "_law_read", "_law_built", "_law_said", "_law_bent", "law"]
abbrev cH : Pl := gA "HeapError"
abbrev cI : Pl := gA "InvalidMachine"
abbrev cP : Pl := gA "ParseError"
abbrev cM : Pl := gA "Machine"
abbrev cR : Pl := gA "LineReader"
def props : List Str := ["sockets", "classes", "threads", "pages", "batch", "spare", "slots", "stops", "fault"]
/-! ### the table of bounds -/
def bnA (k : Str) : Pl := fun K => match PySem.W.nsIn K (gA "BOUNDS" K) k with
  | some (some (.ref a)) => a
  | _ => 0
def bnP (k : Str) (i : Nat) : Pl := fun K => match K.lookup (bnA k K) with
  | some ⟨_, _, .seq its _, _⟩ => (match its[i]? with
    | some (.ref a) => a
    | _ => 0)
  | _ => 0
def tupAt (K : Fg) (a : Addr) (vs : List V) : Bool := match K.lookup a with
  | some ⟨.type c, _, .seq its _, _⟩ => decide (c = "tuple") && (decide (its.size ≤ sizeLine) && He.relAll vs its.toList)
  | _ => false
theorem tupAt_ok {K : Fg} {a : Addr} {vs : List V} (h : tupAt K a vs = true) (H : Hp) : SqT K H a vs := by
  unfold tupAt at h
  cases q : K.lookup a with
  | none =>
    rw [q] at h
    cases h
  | some o =>
    obtain ⟨oc, od, dt, osl⟩ := o
    rw [q] at h
    cases oc with
    | type c =>
      cases dt with
      | seq its n =>
        obtain ⟨h1, h2⟩ := He.ba (show (decide (c = "tuple") && (decide (its.size ≤ sizeLine) && He.relAll vs its.toList)) = true from h)
        obtain ⟨h3, h4⟩ := He.ba h2
        exact .inr ⟨_, its, n, q, congrArg Value.type (of_decide_eq_true h1), rfl, of_decide_eq_true h3, He.relAll_ok h4⟩
      | _ => cases h
    | _ => cases dt <;> cases h
def pairsAt (K : Fg) (k : Str) : Nat → List (Int × Int) → Bool
  | _, [] => true
  | i, b :: r => tupAt K (bnP k i K) [.int b.1, .int b.2] && pairsAt K k (i + 1) r
def refsAt (K : Fg) (k : Str) : Nat → List (Int × Int) → List V
  | _, [] => []
  | i, _ :: r => .ref (bnP k i K) :: refsAt K k (i + 1) r
def bndB (K : Fg) (k : Str) : Bool := match opBounds k with
  | none => false
  | some bs => He.eqO (PySem.W.nsIn K (gA "BOUNDS" K) k) (some (some (.ref (bnA k K)))) && (tupAt K (bnA k K) (refsAt K k 0 bs) && pairsAt K k 0 bs)
/-- a tuple of pairs, as it stands in the written part -/
def KB (K : Fg) (r : Addr) (bs : List (Int × Int)) : Prop := ∃ ps : List Addr, (∀ H : Hp, SqT K H r (ps.map V.ref)) ∧ ps.length = bs.length ∧ ∀ (i : Nat) (p : Addr) (b : Int × Int), ps[i]? = some p → bs[i]? = some b → ∀ H : Hp, SqT K H p [.int b.1, .int b.2]
def adrsAt (K : Fg) (k : Str) : Nat → List (Int × Int) → List Addr
  | _, [] => []
  | i, _ :: r => bnP k i K :: adrsAt K k (i + 1) r
theorem refs_adrs {K : Fg} {k : Str} : ∀ {bs : List (Int × Int)} {i : Nat}, refsAt K k i bs = (adrsAt K k i bs).map V.ref
  | [], _ => rfl
  | _ :: r, i => congrArg (fun z => V.ref (bnP k i K) :: z) (refs_adrs (bs := r) (i := i + 1))
theorem adrs_len {K : Fg} {k : Str} : ∀ {bs : List (Int × Int)} {i : Nat}, (adrsAt K k i bs).length = bs.length
  | [], _ => rfl
  | _ :: r, i => congrArg (· + 1) (adrs_len (bs := r) (i := i + 1))
theorem pairs_ok {K : Fg} {k : Str} : ∀ {bs : List (Int × Int)} {i : Nat}, pairsAt K k i bs = true → ∀ (j : Nat) (p : Addr) (b : Int × Int), (adrsAt K k i bs)[j]? = some p → bs[j]? = some b → ∀ H : Hp, SqT K H p [.int b.1, .int b.2]
  | [], _, _, _, _, _, _, e, _ => by cases e
  | b :: r, i, h, 0, p, b', e1, e2, H => by
    cases e1
    cases e2
    exact tupAt_ok (He.ba h).1 H
  | b :: r, i, h, j + 1, p, b', e1, e2, H => pairs_ok (bs := r) (He.ba h).2 j p b' e1 e2 H
theorem bndB_ok {K : Fg} {k : Str} {bs : List (Int × Int)} (h : bndB K k = true) (e : opBounds k = some bs) : PySem.W.nsIn K (gA "BOUNDS" K) k = some (some (.ref (bnA k K))) ∧ KB K (bnA k K) bs := by
  unfold bndB at h
  rw [e] at h
  obtain ⟨h1, h2⟩ := He.ba h
  obtain ⟨h3, h4⟩ := He.ba h2
  refine ⟨He.eqO_ok h1, adrsAt K k 0 bs, fun H => ?_, adrs_len, fun i p b e1 e2 => pairs_ok h4 i p b e1 e2⟩
  rw [← refs_adrs]
  exact tupAt_ok h3 H
def tkeys : List Str := ["alloc", "free", "adopt", "large", "grow", "drain"]
theorem no_key {P : Params} {k : Str} : ∀ {l : List DictEntry} {ks : List Str}, l.map He.keyOf = He.keysIn P ks → k ∉ ks → (l.find? (·.key.isStr k) = none ∧ l.any (·.refKey) = false)
  | [], _, _, _ => ⟨rfl, rfl⟩
  | e :: r, [], h, _ => by cases h
  | e :: r, k' :: ks, h, n => by
    have h1 : He.keyOf e :: r.map He.keyOf = some (k', PyData.keyHash P k') :: He.keysIn P ks := h
    injection h1 with h2 h3
    obtain ⟨i1, i2⟩ := no_key h3 fun z => n (List.mem_cons_of_mem _ z)
    unfold He.keyOf at h2
    split at h2
    · rename_i x t q
      have e1 : x = k' := (Prod.mk.inj (Option.some.inj h2)).1
      have b : e.key.isStr k = false := by
        rw [q, e1]
        show (k' == k) = false
        refine beq_eq_false_iff_ne.mpr fun w => n ?_
        rw [← w]
        exact List.mem_cons_self
      refine ⟨?_, ?_⟩
      · rw [List.find?_cons, b]
        exact i1
      · rw [List.any_cons, i2, Bool.or_false]
        show DictEntry.refKey e = false
        unfold DictEntry.refKey
        rw [q] <;> rfl
    · cases h2
theorem bnd_none {K : Fg} {w : World} {d : Addr} {ks : List Str} (h : He.dicW K d = some (He.keysIn w.params ks)) {k : Str} (n : k ∉ ks) : PySem.W.nsIn K d k = some none := by
  unfold He.dicW at h
  split at h
  · rename_i c es n' sl q
    split at h
    · obtain ⟨z1, z2⟩ := no_key (Option.some.inj h) n
      unfold PySem.W.nsIn
      rw [q]
      dsimp only
      rw [z1]
      dsimp only
      rw [z2, if_neg Bool.false_ne_true]
    · cases h
  · cases h
theorem bnd_key {k : Str} (n : k ∉ tkeys) : opBounds k = none := by
  have z : ∀ x : Str, x ∈ tkeys → ¬ k = x := fun x hx e => n (by rw [e]; exact hx)
  unfold opBounds
  rw [if_neg (z "alloc" (by decide +kernel)), if_neg (z "free" (by decide +kernel)), if_neg (z "adopt" (by decide +kernel)), if_neg (z "large" (by decide +kernel)), if_neg (z "grow" (by decide +kernel)), if_neg (z "drain" (by decide +kernel))]
theorem bnd_some {k : Str} {bs : List (Int × Int)} (e : opBounds k = some bs) : k ∈ tkeys := by
  by_cases h : k ∈ tkeys
  · exact h
  · rw [bnd_key h] at e
    cases e
/-! ### own classes -/
def insB (K : Fg) (C : Addr) : Bool := decide (PySem.W.findIn K (.ref C) "__class__" = some (some (.builtin "object.__class__"))) && (decide (PySem.W.specialIn K (.builtin "object.__class__") "__get__" = some (some (.builtin "getset_descriptor.__get__"))) &&
  (decide (PySem.W.takesIn K (.builtin "object.__class__") = some true) && (decide (PySem.W.mroIn K C (.type "object") = some true) && (decide (PySem.W.kitOne K (.ref C) (.ref C) = some true) && decide (PySem.W.kitOne K (.type "list") (.ref C) = some false)))))
def propB (K : Fg) (c f : Str) : Bool := decide (PySem.W.findIn K (.ref (gA c K)) f = some (some (.ref (mA c f K)))) && (decide (PySem.W.specialIn K (.ref (mA c f K)) "__get__" = some (some (.builtin "property.__get__"))) && (decide (PySem.W.takesIn K (.ref (mA c f K)) = some true) &&
  (match PySem.W.recIn K (mA c f K) "property" with
  | some (.ref _ :: _) => true
  | _ => false)))
theorem propB_ok {K : Fg} {c f : Str} (h : propB K c f = true) : PropOf K (gA c K) f (mA c f K) (pA c f K) := by
  unfold propB at h
  obtain ⟨h1, h⟩ := He.ba h
  obtain ⟨h2, h⟩ := He.ba h
  obtain ⟨h3, h4⟩ := He.ba h
  refine ⟨of_decide_eq_true h1, of_decide_eq_true h2, of_decide_eq_true h3, ?_⟩
  unfold pA
  cases e : PySem.W.recIn K (mA c f K) "property" with
  | none =>
    rw [e] at h4
    cases h4
  | some l =>
    rw [e] at h4
    cases l with
    | nil => cases h4
    | cons v r =>
      cases v with
      | ref g => exact ⟨r, rfl⟩
      | _ => cases h4
def baseB (K : Fg) (C : Addr) : Bool := PySem.W.readsIn K C (.type "type") && (decide (PySem.W.specialIn K (.ref C) "__getattribute__" = some (some (.builtin "type.__getattribute__"))) && (match PySem.W.findCls K (.ref C) (.type "type") "__init__" with
  | some (.val (.builtin x)) => decide (x = "ValueError.__init__")
  | _ => false))
structure BaseT (K : Fg) (C : Addr) : Prop where
  rd : PySem.W.readsIn K C (.type "type") = true
  ga : PySem.W.specialIn K (.ref C) "__getattribute__" = some (some (.builtin "type.__getattribute__"))
  ini : PySem.W.findCls K (.ref C) (.type "type") "__init__" = some (.val (.builtin "ValueError.__init__"))
theorem baseB_ok {K : Fg} {C : Addr} (h : baseB K C = true) : BaseT K C := by
  unfold baseB at h
  obtain ⟨h1, h⟩ := He.ba h
  obtain ⟨h2, h3⟩ := He.ba h
  refine ⟨h1, of_decide_eq_true h2, ?_⟩
  split at h3
  · rename_i x e
    rw [e, of_decide_eq_true h3]
  · cases h3
/-! ### all of it -/
def exmsB (K : Fg) : Bool := (He.Fa.exm "ParseError" "ParseError" true).ok K && ((He.Fa.exm "InvalidMachine" "ParseError" false).ok K && (He.Fa.exm "InvalidMachine" "InvalidMachine" true).ok K)
def facts : List (Fg → Bool) := [
  fun K => glos.all fun x => (He.Fa.glo x).ok K,
  fun K => frees.all fun x => (He.Fa.free x).ok K,
  fun K => intsM.all fun p => (He.Fa.int p.1 p.2).ok K,
  fun K => (He.Fa.cls "Machine").ok K && ((He.Fa.noat "Machine" "settings").ok K && ((He.Fa.mkr "Machine").ok K && (insB K (cM K) && (He.Fa.meth "Machine" "__eq__").ok K))),
  fun K => props.all fun f => propB K "Machine" f,
  fun K => (He.Fa.cls "LineReader").ok K && ((He.Fa.noat "LineReader" "lines").ok K && ((He.Fa.noat "LineReader" "place").ok K && (He.Fa.mkr "LineReader").ok K)),
  fun K => (["fail", "item", "read_numbers", "fault_word", "program", "all_threads"] : List Str).all fun m => (He.Fa.meth "LineReader" m).ok K,
  fun K => oexB K (cI K) (mA "InvalidMachine" "__init__" K) "name" && oexB K (cP K) (mA "ParseError" "__init__" K) "line",
  fun K => baseB K (cH K) && exmsB K,
  fun K => He.tupB K "HEADS" (heads.map .str) && He.tupB K "FAULTS" (faults.map .str),
  fun K => tkeys.all fun k => bndB K k]
structure Txt (K : Fg) (mg : Str → Option Value) (w : World) : Prop where
  glo : ∀ x ∈ glos, mg x = some (.ref (gA x K))
  free : ∀ x ∈ frees, mg x = none
  int : ∀ p ∈ intsM, ∃ u, mg p.1 = some u ∧ RelV (.int p.2) u
  mCls : Cls K (cM K)
  mSet : NoAttr K (cM K) "settings"
  mMk : Mk K (cM K) (mA "Machine" "__init__" K)
  mIns : C8.InsC K (cM K)
  mLst : PySem.W.kitOne K (.type "list") (.ref (cM K)) = some false
  mEq : Meth K (cM K) "__eq__" (mA "Machine" "__eq__" K)
  prop : ∀ f ∈ props, PropOf K (cM K) f (mA "Machine" f K) (pA "Machine" f K)
  rCls : Cls K (cR K)
  rLin : NoAttr K (cR K) "lines"
  rPla : NoAttr K (cR K) "place"
  rMk : Mk K (cR K) (mA "LineReader" "__init__" K)
  rMet : ∀ m ∈ (["fail", "item", "read_numbers", "fault_word", "program", "all_threads"] : List Str), Meth K (cR K) m (mA "LineReader" m K)
  xI : OexT K (cI K) (mA "InvalidMachine" "__init__" K) "name"
  xP : OexT K (cP K) (mA "ParseError" "__init__" K) "line"
  xH : BaseT K (cH K)
  ePP : PySem.W.exmOne K (.ref (cP K)) (.ref (cP K)) = some true
  eIP : PySem.W.exmOne K (.ref (cI K)) (.ref (cP K)) = some false
  eII : PySem.W.exmOne K (.ref (cI K)) (.ref (cI K)) = some true
  hds : ∀ H : Hp, SqT K H (gA "HEADS" K) (heads.map .str)
  fts : ∀ H : Hp, SqT K H (gA "FAULTS" K) (faults.map .str)
  bnd : ∃ es n, KDict K w (gA "BOUNDS" K) es n
  bnds : ∀ k, match opBounds k with
    | none => PySem.W.nsIn K (gA "BOUNDS" K) k = some none
    | some bs => ∃ r, PySem.W.nsIn K (gA "BOUNDS" K) k = some (some (.ref r)) ∧ KB K r bs
  def_ : ∀ (i : Nat) (d : DefX), fns[i]? = some d → ∃ fd, FunD K d.name d.qual d.params d.body d.scope [] d.kwd (d.at_ K) fd
theorem map_vs {K : Fg} (l : List Str) : (l.map He.Dv.str).map (He.Dv.v K) = l.map V.str := by
  rw [List.map_map]
  exact List.map_congr_left fun _ _ => rfl
theorem txt_of {K : Fg} {mg : Str → Option Value} {w : World} {h : Heap} (X : K.In h) (G : h.Ns mainGlobals mg) (c : SaysH facts fns (gA "BOUNDS") tkeys w K) : Txt K mg w := by
  have f0 := List.all_eq_true.mp (c.fact 0)
  have f1 := List.all_eq_true.mp (c.fact 1)
  have f2 := List.all_eq_true.mp (c.fact 2)
  obtain ⟨f3a, f3⟩ := He.ba (c.fact 3)
  obtain ⟨f3b, f3⟩ := He.ba f3
  obtain ⟨f3c, f3⟩ := He.ba f3
  obtain ⟨f3d, f3e⟩ := He.ba f3
  have f4 := List.all_eq_true.mp (c.fact 4)
  obtain ⟨f5a, f5⟩ := He.ba (c.fact 5)
  obtain ⟨f5b, f5⟩ := He.ba f5
  obtain ⟨f5c, f5d⟩ := He.ba f5
  have f6 := List.all_eq_true.mp (c.fact 6)
  obtain ⟨f7a, f7b⟩ := He.ba (c.fact 7)
  obtain ⟨f8a, f8⟩ := He.ba (c.fact 8)
  obtain ⟨f8b, f8⟩ := He.ba f8
  obtain ⟨f8c, f8d⟩ := He.ba f8
  obtain ⟨f9a, f9b⟩ := He.ba (c.fact 9)
  have f10 := List.all_eq_true.mp (c.fact 10)
  obtain ⟨i1, i2⟩ := He.ba f3d
  obtain ⟨i2, i3⟩ := He.ba i2
  obtain ⟨i3, i4⟩ := He.ba i3
  obtain ⟨i4, i5⟩ := He.ba i4
  obtain ⟨i5, i6⟩ := He.ba i5
  have mc := He.cls_ok f3a
  refine ⟨fun x hx => He.glo_ok X G (f0 x hx), fun x hx => He.free_ok X G (f1 x hx), fun p hp => ?_, mc, He.noat_ok f3b, He.mkr_ok f3c,
    ⟨mc, of_decide_eq_true i1, of_decide_eq_true i2, of_decide_eq_true i3, of_decide_eq_true i4, of_decide_eq_true i5⟩, of_decide_eq_true i6, He.meth_ok f3e, fun f hf => propB_ok (f4 f hf),
    He.cls_ok f5a, He.noat_ok f5b, He.noat_ok f5c, He.mkr_ok f5d, fun m hm => He.meth_ok (f6 m hm), oexB_ok f7a, oexB_ok f7b, baseB_ok f8a, He.exm_ok f8b, He.exm_ok f8c, He.exm_ok f8d,
    fun H => ?_, fun H => ?_, c.tab, fun k => ?_, fun i d e => c.def_ i e⟩
  · obtain ⟨t, e⟩ := He.int_ok X G (f2 p hp)
    exact ⟨_, e, t, rfl⟩
  · have z := He.tupB_ok f9a H
    rw [map_vs] at z
    exact z
  · have z := He.tupB_ok f9b H
    rw [map_vs] at z
    exact z
  · cases e : opBounds k with
    | none =>
      have n : k ∉ tkeys := fun hm => by
        have z := f10 k hm
        unfold bndB at z
        rw [e] at z
        cases z
      exact bnd_none (congrArg (fun z : AlH => z.2) c) n
    | some bs =>
      obtain ⟨z1, z2⟩ := bndB_ok (f10 k (bnd_some e)) e
      exact ⟨_, z1, z2⟩
end Hf
end
section
set_option maxHeartbeats 0
/-! Hh: the head: what stands behind the top. -/
namespace Hf
open PySem PySem.Spec PyProof.Rows L2
abbrev R : PySem.W.OpenRow := PySem.W.OpenLaw.row PySem.Challenge.rw_homefrees_k05_whole_texts_of_machines
abbrev hk : PySem.W.Hook := hookH 5 facts fns (gA "BOUNDS") tkeys
def ob (s : PySem.W.SharedT) : AlH := obsHG 5 facts fns (gA "BOUNDS") (HandSHeadRun.getT s)
theorem ob_eq (s : PySem.W.SharedT) : ob s = hk.obs s.abs := obsHG_eq (HandSHeadRun.getT_eq s)
def loose : List Str := (["_wall", "HeapError", "InvalidMachine", "ParseError", "MAX_CLASS", "MAX_SLOT", "MAX_LARGE", "MAX_DIGITS", "BOUNDS", "is_integer", "is_between", "is_row", "is_operation", "line_text", "parse_number", "parse_item",
  "MAX_SOCKETS", "MAX_CLASSES", "MAX_BLOCKS", "MAX_THREADS", "MAX_OPERATIONS", "MAX_PAGES", "MAX_BATCH", "MAX_SPARE", "MAX_SLOTS", "MAX_STOPS", "is_classes", "fits", "is_thread", "Machine"] : List Str) ++ (["HEADS", "FAULTS", "MAX_REPEAT", "MAX_DEPTH", "MAX_BLOCK",
  "machine_text", "LineReader", "parse_machine", "_law_pool", "_law_take", "_law_program", "_law_settings", "_law_text", "_law_numbers", "_law_operation", "_law_read", "_law_built", "_law_said", "_law_bent"] : List Str)
theorem run (w : World) : HandSHeadRun.RunEq R (PySem.W.view R.prog [54]) hk ob 6000 loose w :=
  PySem.W.byRow2 "special-get-raises" (P := fun w => HandSHeadRun.RunEq R (PySem.W.view R.prog [54]) hk ob 6000 loose w) (fun w os => by kernel_rfl) (fun w os => by kernel_rfl) w
end Hf
end
section
set_option maxHeartbeats 4000000
/-! Ru1: rules that the layer lacks: a written dict's get with a default; a, *b = a list; Base.__init__(self, ..) by an own base. -/
namespace Hf
open PySem PySem.Spec PyProof.Rows L2
section
variable {X : Cx} {o e f : Expr} {apos cpos : Pos} {td ty tx : TE} {d : Addr} {es : Array DictEntry} {n : Nat}
/-- d.get(k, x), d a written dict with text keys -/
def tKGet (K : PySem.W.Frag) (d : Addr) (td ty tx : TE) : TE := fun σ H Q => td σ H fun x H1 => x = .ref d ∧ ty σ H1 fun y H2 => tx σ H2 fun z H3 => ∃ (k : Str) (r : Option Value), y = .str k ∧ PySem.W.nsIn K d k = some r ∧
  (match r with
    | none => Q z H3
    | some u => ∃ v, RelV v u ∧ Q v H3)
theorem pe_kget2 (D : KDict X.K X.w d es n) (ho : PE X o td) (he : PE X e ty) (hf : PE X f tx) (m : M2 X o "get" apos e f cpos) : PE X (.Call (.Attribute o "get" apos) [e, f] [] cpos) (tKGet X.K d td ty tx) := by
  refine ⟨fun pins s σ H Q I h => ?_⟩
  refine wpAny_Call_method m.base m.few m.line PySem.F.plainAttrs_dict PySem.F.slot_dict_get PySem.F.type_dict_get (thn (ho.run pins s σ H _ I h) fun u s1 ⟨x, H1, I1, rx, ex, q1⟩ => ?_)
  subst ex
  obtain rfl : u = Value.ref d := rx
  refine ⟨kd_type D I1, fun a ea => ?_, ?_⟩
  · cases ea
    exact ⟨_, I1.kIn _ _ D.at_, rfl⟩
  rw [m.trees]
  refine Calls.callWith_builtin rfl (Calls.evalArgs_plain (Calls.spliced_cons (thn (he.run pins s1 σ H1 _ I1 q1) fun iv s2 ⟨y, H2, I2, ry, q2⟩ =>
    Calls.spliced_cons (thn (hf.run pins s2 σ H2 _ I2 q2) fun fv s3 ⟨z, H3, I3, rz, k, r, ey, ek, q3⟩ => Calls.spliced_nil ?_))))
  subst ey
  obtain ⟨t, rfl⟩ := ry
  refine call_meetsIn PySem.F.slot_dict_get (kd_type D I3) PySem.F.entry_dict_get (PySem.F.args_dict_get_3 _ _ _) (meets_dict_get_default (strKind X.prog X.w) d (PySem.strKind_is X.prog X.w k t) D.low fv) ⟨_, PySem.W.mapOf_K (prog := X.prog) I3.kIn D.at_ D.lit, ?_⟩
  rw [PySem.W.find_K D.at_ ek]
  cases r with
  | none => exact ⟨z, H3, I3.tok _, rz, q3⟩
  | some u =>
    obtain ⟨v, rv, q⟩ := q3
    exact ⟨v, H3, I3.tok _, rv, q⟩
end
end Hf
namespace Hf
open PySem PySem.Spec PyProof.Rows L2
/-! ### a, *b = a list -/
/-- the items of a list for one name and a starred one -/
theorem star_items {prog : Program} {w : World} {A : Around} {E : Value → Shared → Prop} {s : Shared} {l : Addr} {x : Value} {its : List Value} {Q : List Value → Shared → Prop} (hl : s.heap.IsList l (x :: its).toArray) (hh : A.handled = none) (hz : its.length ≤ 100000)
    (h : ∀ h' tk, Heap.ExtBut s.heap.objs.size s.heap h' → Q [x, .ref h'.objs.size] { s with heap := h'.push { cls := .type "list", data := .seq its.toArray }, toks := tk }) :
    wpAny (model prog w) A (unpackItems (.ref l) 2 (some 1)) Q E s := by
  have hlt : l < s.heap.objs.size := by
    obtain ⟨o, ho, _⟩ := hl
    exact Heap.lt_size ho
  have hne := Nat.ne_of_lt hlt
  have hz2 : (x :: its).toArray.size ≤ sizeLine := by
    rw [List.size_toArray, List.length_cons, sizeLine_eq]
    omega
  unfold unpackItems
  refine wpAny_bind ?_
  unfold notIterableAtAll
  refine wpAny_bind (wpAny_specialOf hl.typeIs slot_list_iter.lookup (wpAny_pure ?_))
  rw [if_neg (by decide)]
  refine wpAny_bind (wpAny_holding (wpAny_pyIter_list hl ?_))
  refine wpAny_bind (wpAny_holding (PySem.W.kun_draw hne 1 0 _ _ ⟨_, Heap.get?_push_size _ rfl, rfl, rfl⟩ (hl.push _) (by simp) fun g1 it1 sb1 => ?_))
  have hl1 : g1.IsList l (x :: its).toArray := (hl.push _).extBut sb1.extBut hne
  have it1' : g1.IsListIter s.heap.objs.size l 1 := it1
  obtain ⟨oi, hoi, _⟩ := id it1'
  obtain ⟨ol, hol, _⟩ := id hl1
  dsimp only
  rw [if_neg (show ¬ ((((x :: its).toArray.toList.drop 0).take 1).length < 1) from Nat.lt_irrefl 1)]
  refine wpAny_bind (wpAny_holding (PySem.W.kun_collect (s := { s with heap := g1 }) (T := "list_iterator") (k := 1) (.inr (.inr (.inl rfl))) (Walks.list (A := A.in1) hh s.heap.objs.size l hne (x :: its).toArray) (fun j u st => st.1.typeIs) (by simp) ⟨it1', hl1⟩ (Heap.lt_size hoi) (Heap.lt_size hol) (fun g2 tk k2 => ?_) hz2))
  have e1 : (x :: its).toArray.toList.drop 1 = its := rfl
  rw [e1]
  rw [if_neg (show ¬ (its.length < 2 - 1 - 1) from Nat.not_lt_zero _)]
  show wpAny _ _ (newList (its.take its.length) >>= fun d => pure ([x] ++ [d] ++ its.drop its.length)) _ _ _
  rw [List.take_length, List.drop_length]
  have ke : Heap.ExtBut s.heap.objs.size s.heap g2 := fun b o hb e => k2 b o hb (sb1.extBut b o hb (Heap.get?_push_of_some _ e))
  have hz3 : its.toArray.size ≤ sizeLine := by
    rw [List.size_toArray, sizeLine_eq]
    omega
  exact wpAny_bind (wpAny_newObj_type (wpAny_pure (h g2 tk ke)) hz3)
section
variable {X : Cx} {e1 e2 : Expr} {p2 pos : Pos}
/-- a, *b = a list of one or more -/
def gStar1 (K : PySem.W.Frag) (t : TGs) : TG := fun v σ H Q => ∃ a x xs, v = .ref a ∧ SqL K H a (x :: xs) ∧ xs.length ≤ 100000 ∧ ∀ p, H p = none → t [x, .ref p] σ (upd H p (.lst xs)) Q
theorem pg_star1 {t : TGs} {k : Nat} (hc : X.calm = true) (h : PGs X [e1, e2] t) (hm : (assignEach [e1, .Starred e2 p2] X.env).map (·.2) = (assignEach [e1, e2] X.env).map (·.2) := by rfl)
    (hn : (assignEach [e1, .Starred e2 p2] X.env).length = 2 := by rfl) (hst : (assignEach [e1, .Starred e2 p2] X.env).findIdx? (·.1) = some 1 := by rfl) : PG X (.Tuple [e1, .Starred e2 p2] k pos) (gStar1 X.K t) := by
  refine ⟨fun pins s σ H v u Q I r hw => ?_⟩
  obtain ⟨a, x, xs, ev, hq, hz, hw⟩ := hw
  subst ev
  cases r
  obtain ⟨its, rv, pl, _⟩ := I.list hq
  cases rv with
  | cons rx rr =>
    rename_i u' its'
    have hl' : s.heap.IsList a (u' :: its').toArray := by
      obtain ⟨o, m, e, c, d, q⟩ := pl
      exact ⟨o, e, c, m, q⟩
    rw [PyProof.Rows.assign_Tuple]
    refine wpAny_bind (wpAny_standAt ?_)
    unfold unpack
    rw [hn, hst]
    refine wpAny_bind (wpAny_holding (star_items hl' (I.ok.hd hc) (by rw [← rr.length]; exact hz) fun g2 tk ke => ?_))
    rw [hm]
    have I1 : Inv X pins σ H { s with heap := g2 } := I.kept (t' := s.toks) fun b o e => ke b o (Nat.ne_of_lt (Heap.lt_size e)) e
    have hz2 : xs.length ≤ sizeLine := by
      rw [sizeLine_eq]
      omega
    have ob : ObjOk X.prog X.w (upd H g2.objs.size (.lst xs)) (g2.push { cls := .type "list", data := .seq its'.toArray }) g2.objs.size (.lst xs) := ⟨hz2, its', _, rr, Heap.get?_push_size _ rfl⟩
    have J := I1.laid (t' := tk) (fun b o e => Heap.get?_push_of_some _ e) (Nat.le_refl _) ob
    exact h.run pins _ σ _ _ _ Q J (.cons rx (.cons (show RelV (.ref g2.objs.size) (Value.ref g2.objs.size) from rfl) .nil)) (hw _ (I1.hok.fresh (Nat.le_refl _)))
end
/-! ### an own class's inherited __init__, called by the class -/
section
variable {X : Cx} {e : Expr} {es : List Expr} {ta : TA} {p1 p2 pos : Pos} {b : Str} {B : Addr}
theorem pe_heinit {pl : Sem Bool} (hg : Gl X b) (hm : X.mg b = some (.ref B)) (kB : PySem.W.readsIn X.K B (.type "type") = true) (gB : PySem.W.specialIn X.K (.ref B) "__getattribute__" = some (some (.builtin "type.__getattribute__")))
    (vV : PySem.W.findCls X.K (.ref B) (.type "type") "__init__" = some (.val (.builtin "ValueError.__init__"))) (ha : PA X (e :: es) ta)
    (hc : eval (.Call (.Attribute (.Name b p1) "__init__" p2) (e :: es) [] pos) X.env = (do
      let ov ← eval (.Name b p1) X.env
      standAt p2.atName
      let (f, first) ← holding [ov] (getMethod ov "__init__" pl)
      callWith pos f first (backTo pos (starEach (e :: es) X.env)) (backToKw pos (keywordEach [] X.env))) := by rfl) (hdb : (b == ("__debug__" : Str)) = false := by decide)
    (he : starEach (e :: es) X.env = (false, eval e X.env) :: starEach es X.env := by rfl) (hpl : (backTo pos (starEach es X.env)).any (·.1) = false := by rfl) :
    PE X (.Call (.Attribute (.Name b p1) "__init__" p2) (e :: es) [] pos) (tVeI X.K ta) := by
  refine ⟨fun pins s σ H Q I h => ?_⟩
  refine PySem.W.methodCall_KW (ld_glob I hg hm ?_ hdb) hc
  refine PySem.W.method_cls I.kIn gB (PySem.W.cls_value I.kIn kB vV (by decide +kernel) ?_)
  show wpAny _ _ (callWith pos (Value.builtin "ValueError.__init__") [] (backTo pos (starEach (e :: es) X.env)) []) _ _ _
  refine PyProof.Rows.callWith_method1 (thn (ha.run pos pins _ σ H _ (I.tok _) h) fun us s1 ⟨vs, H1, I1, r1, a, C, ws, ev, hl, T, ea, q⟩ => ?_) he hpl
  subst ev
  cases r1 with
  | @cons _ u0 _ ur ra rw' =>
    obtain rfl : u0 = Value.ref a := ra
    have hlen : ur.length ≤ sizeLine := by
      rw [← Paired.length rw', sizeLine_eq]
      omega
    exact oinit_ok T I1 ea hlen fun s' J => ⟨.non, H1, J, rfl, q⟩
end
end Hf
end
section
set_option maxHeartbeats 4000000
/-! Ru2: a comprehension whose element may let an exception out; a try with two named clauses. -/
namespace L2
open PySem PySem.Spec PyProof.Rows
theorem note_same {e : Value} {a b : Env} (h : a.frame = b.frame) : noteFrame e a = noteFrame e b := by
  unfold noteFrame PySem.frameOf
  rw [h]
theorem frames_but {base base' h h' : Heap} : ∀ {l : List Env}, h.FunFrames base l → (∀ L ∈ frs l, base'.get? L = none) → (∀ L ∈ frs l, h'.get? L = h.get? L) → h'.FunFrames base' l
  | [], _, _, _ => True.intro
  | env :: r, hh, n, k => by
    obtain ⟨k1, ⟨L, o, hf, _, ho, hd⟩, k3⟩ := hh
    have mL : L ∈ frs (env :: r) := List.mem_filterMap.mpr ⟨env, List.mem_cons_self, hf⟩
    have up : ∀ b, b ∈ frs r → b ∈ frs (env :: r) := fun b hb => by
      obtain ⟨e, he, q⟩ := List.mem_filterMap.mp hb
      exact List.mem_filterMap.mpr ⟨e, List.mem_cons_of_mem _ he, q⟩
    exact ⟨k1, ⟨L, o, hf, n L mL, (k L mL).trans ho, hd⟩, frames_but k3 (fun b hb => n b (up b hb)) fun b hb => k b (up b hb)⟩
section
variable {X : Cx} {pins : List (Addr × Obj)} {σ : St} {H : Hp} {s s' : Shared} {E : XK} {u : Value}
/-- a call's exception, told in full -/
theorem fl_of_call (I : Inv X pins σ H s) (c : L2.CX X.prog X.w X.stack H s E u s') : ∃ (a : Addr) (B : Heap) (sI : Shared) (H' : Hp) (cls : Value) (d : Option Addr), u = .ref a ∧ Inv X pins σ H' sI ∧
    (∀ b o, sI.heap.get? b = some o → b ∉ frs X.stack → B.get? b = some o) ∧ sI.heap.UpToSlots s'.heap ∧ HandSPX.FlyingZ B X.stack a (Zc cls d) s'.heap ∧ H' a = none ∧ s'.os = sI.os ∧ AllBare s'.gens ∧ E cls d H' := by
  obtain ⟨a, B, H', cls, d, eu, fl, hok, ub, na, os, ag, hE⟩ := c
  have st : B.StaysIn s'.heap := fl.1
  obtain ⟨G, gin, gout⟩ := restrict s'.heap fun b => (B.get? b).isSome || decide (b ∈ frs X.stack)
  have gB : ∀ b o, B.get? b = some o → G.get? b = some o := fun b o e => (gin b (by rw [e] <;> rfl)).trans (st b o e)
  have gF : ∀ b, b ∈ frs X.stack → G.get? b = s'.heap.get? b := fun b hb => gin b (by rw [decide_eq_true hb, Bool.or_true])
  have back : ∀ b o, G.get? b = some o → s'.heap.get? b = some o ∧ ((B.get? b).isSome = true ∨ b ∈ frs X.stack) := fun b o e => by
    by_cases q : ((B.get? b).isSome || decide (b ∈ frs X.stack)) = true
    · refine ⟨(gin b q).symm.trans e, ?_⟩
      rw [Bool.or_eq_true, decide_eq_true_eq] at q
      exact q
    · have z := gout b (Bool.eq_false_iff.mpr q)
      rw [e] at z
      cases z
  have J : Inv X pins σ H' { s with heap := G, gens := s'.gens, drawn := s'.drawn, toks := s'.toks } := by
    refine I.call (ch := []) { keep := fun b o e n hb _ => gB b o (ub.keep b o e n hb), slot := fun b o e n hb _ => ?_, free := fun b o e n _ => ub.free b o e n, there := fun b o e _ => ?_, tups := ub.tups, frzs := ub.frzs, tbls := ub.tbls } (hok.kept gB) ag (fun _ z => nomatch z)
    · obtain ⟨sl, q⟩ := ub.slot b o e hb
      exact ⟨sl, (gF b hb).trans q⟩
    · by_cases hb : b ∈ frs X.stack
      · obtain ⟨sl, q⟩ := ub.slot b o e hb
        exact ⟨_, (gF b hb).trans q⟩
      · obtain ⟨o', q⟩ := ub.there b o e hb
        exact ⟨o', gB b o' q⟩
  refine ⟨a, B, _, H', cls, d, eu, J, fun b o e hb => ?_, Heap.UpToSlots.of_keeps fun b o e => (back b o e).1, fl, na, os, ag, hE⟩
  obtain ⟨e1, e2⟩ := back b o e
  rcases e2 with h | h
  · obtain ⟨o', q⟩ := Option.isSome_iff_exists.mp h
    have z := st b o' q
    rw [e1] at z
    rw [q, Option.some.inj z]
  · exact absurd h hb
/-- out of a comprehension's block at C an exception goes on in the def -/
theorem comp_out {W : WX} {ce : Env} {C : Addr} {sI : Shared} {H' : Hp} {cls : Value} {d : Option Addr} {a : Addr} {B : Heap} (hs : X.stack = X.env :: X.outer) (hf : X.env.frame = some X.env.locals) (hfr : X.A.frames = some (X.env :: X.outer)) (tk : Takes X W) (cf : ce.frame = X.env.frame) (cL : ce.locals = C)
    (hnC : ∃ m, sI.heap.Ns C m) (hCs : C ∉ frs X.stack) (nb : ∀ b o, sI.heap.get? b = some o → b ∉ frs X.stack → B.get? b = some o) (up : sI.heap.UpToSlots s'.heap) (fl : HandSPX.FlyingZ B X.stack a (Zc cls d) s'.heap)
    (na : H' a = none) (os : s'.os = sI.os) (ag : AllBare s'.gens) (w : W cls d σ H')
    (J : ∀ G : Heap, (∀ b, b ≠ C → G.get? b = sI.heap.get? b) → G.get? C = none → Inv X pins σ H' { sI with heap := G }) :
    notedBy (model X.prog X.w) X.A ce (fun e s' => CompFails (model X.prog X.w) X.A X.xe ce e s') (.ref a) s' := by
  show wpAny _ _ (noteFrame (.ref a) ce) _ _ _
  rw [note_same (b := X.env) cf]
  rw [hs] at fl
  obtain ⟨m, hm⟩ := hnC
  obtain ⟨oC, eC⟩ : ∃ o, sI.heap.get? C = some o := by
    obtain ⟨o, es, ep, e, _⟩ := hm
    exact ⟨o, e⟩
  have BC := nb C oC eC hCs
  refine HandSPX.looks_onZ Zc.steady hfr hf fl fun h1 hh up1 => ?_
  have st1 : B.StaysIn h1 := hh.1
  refine ⟨m, ?_, fun h2 m2 hn2 sb => ?_⟩
  · rw [cL]
    exact hm.at fun o q => st1 C o (nb C o q hCs)
  rw [cL] at sb
  obtain ⟨B', gin, gout⟩ := restrict B fun b => decide (b ≠ C)
  have B'C : B'.get? C = none := gout C (by simp)
  have B'o : ∀ b, b ≠ C → B'.get? b = B.get? b := fun b hb => gin b (decide_eq_true hb)
  have B'n : ∀ b, B.get? b = none → B'.get? b = none := fun b q => by
    by_cases hb : b = C
    · rw [hb]
      exact B'C
    · rw [B'o b hb]
      exact q
  have neC : ∀ b, B.get? b = none → b ≠ C := fun b q z => by
    rw [z, BC] at q
    cases q
  obtain ⟨f1, f2, f3, oe, vs, T, oT, ts, he, hz, hd, hv1, hnT, hTe, hT, hdT, hv3⟩ := hh
  have held : HandSPX.HeldZ B' (X.env :: X.outer) a (Zc cls d) X.env.locals h2 := by
    refine ⟨fun b o q => ?_, B'n a f2, frames_but f3 (fun L hL => ?_) (fun L hL => ?_), oe, vs, T, oT, ts, (sb.2 a (neC a f2)).trans he, hz, hd, hv1, B'n T hnT, hTe, (sb.2 T (neC T hnT)).trans hT, hdT, hv3⟩
    · have hb : b ≠ C := fun z => by
        rw [z, B'C] at q
        cases q
      rw [B'o b hb] at q
      exact (sb.2 b hb).trans (st1 b o q)
    · exact B'n L (f3.mem hL).1
    · exact sb.2 L (neC L (f3.mem hL).1)
  have he2 : h2.get? a = some oe := (sb.2 a (neC a f2)).trans he
  unfold PySem.passOn
  refine wpAny_bind (wpAny_field he2 hd hv1 ?_)
  rw [if_neg (show ¬ ((Value.ref T == Value.none) = true) from by simp)]
  have fin : wpAny (model X.prog X.w) X.A (setFlight (.ref a) ce.frame) (fun _ s4 => wpAny (model X.prog X.w) X.A (throw (.ref a) : Sem Value) (fun _ _ => False) X.xe s4) X.xe { s' with heap := h2 } := by
    rw [cf, hf]
    refine HandSPX.setFlight_onZ held fun h3 hh3 up3 => wpAny_throw (tk _ _ ?_)
    obtain ⟨G, g1, g2⟩ := restrict sI.heap fun b => decide (b ≠ C)
    have gC : G.get? C = none := g2 C (by simp)
    have go : ∀ b, b ≠ C → G.get? b = sI.heap.get? b := fun b hb => g1 b (decide_eq_true hb)
    have gne : ∀ b o, G.get? b = some o → b ≠ C := fun b o q z => by
      rw [z, gC] at q
      cases q
    refine ⟨a, B', { sI with heap := G }, pins, σ, H', cls, d, rfl, J G go gC, fun b o q hb => ?_, fun b o q hnf => ?_, .inr (.inr (by rw [hs]; exact hh3)), na, os, ag, w⟩
    · have hbC := gne b o q
      have q' : G.get? b = some o := q
      rw [go b hbC] at q'
      rw [B'o b hbC]
      exact nb b o q' hb
    · have hbC := gne b o q
      have q' : G.get? b = some o := q
      rw [go b hbC] at q'
      obtain ⟨l1, e1⟩ := up b o q' hnf
      obtain ⟨l2, e2⟩ := up1 b _ e1 hnf
      obtain ⟨l3, e3⟩ := up3 b _ ((sb.2 b hbC).trans e2) hnf
      exact ⟨l3, e3⟩
  first
    | exact wpAny_bind (wpAny_pure (wpAny_bind fin))
    | exact wpAny_bind fin
end
/-! ### the block -/
section
variable {X : Cx}
/-- the block's context, its exceptions handed on -/
abbrev Cx.blkX (X : Cx) (s : Shared) (H : Hp) (scope : Scope) (ce : Env) (fp : List Addr) : Cx :=
  (X.blk s H scope ce fp).wish (notedBy (model X.prog X.w) X.A ce fun e s' => CompFails (model X.prog X.w) X.A X.xe ce e s')
theorem blkX_eval {s : Shared} {H : Hp} {scope : Scope} {ce : Env} {fp : List Addr} {elt : Expr} {te : TE} (h : PE (X.blkX s H scope ce fp) elt te) {pins : List (Addr × Obj)} {s1 : Shared} {σ : St} {H1 : Hp} {Q : Value → Shared → Prop} {Q' : VK}
    (I : Inv (X.blk s H scope ce fp) pins σ H1 s1) (q : te σ H1 Q') (k : ∀ v s2 y H2, Inv (X.blk s H scope ce fp) pins σ H2 s2 → RelV y v → Q' y H2 → Q v s2) :
    wpAny (model X.prog X.w) X.A (eval elt ce) Q (notedBy (model X.prog X.w) X.A ce fun e s' => CompFails (model X.prog X.w) X.A X.xe ce e s') s1 := by
  have z := h.run pins s1 σ H1 Q' (I.wish _) q
  exact wpAny_mono z (fun v s2 ⟨y, H2, I2, r2, q2⟩ => k v s2 y H2 I2.unwish r2 q2) fun _ _ x => x
/-- what a callee lets out in the block -/
theorem blkX_passes {pins : List (Addr × Obj)} {σ : St} {H : Hp} {s : Shared} {scope : Scope} {ce : Env} {fp : List Addr} {E : XK} (hs : X.stack = X.env :: X.outer) (hf : X.env.frame = some X.env.locals) (tk : Takes X fun cls d _ H => E cls d H)
    (I3 : Inv X pins σ H s) (cf : ce.frame = X.env.frame) (cL : ce.locals = s.heap.objs.size) (f3 : ∀ b ∈ fp, FpOk X pins H b ∧ b < s.heap.objs.size) : Passes (L2.CX X.prog X.w) (X.blkX s H scope ce fp) E := by
  intro pins2 σ2 H2 s2 u s2' I c
  obtain ⟨a, B, sI, H', cls, d, rfl, J, nb, up, fl, na, os, ag, hE⟩ := fl_of_call I c
  have hfr : X.A.frames = some (X.env :: X.outer) := by rw [I3.ok.frames, hs]
  have nC : H' ce.locals = none := J.free
  obtain ⟨m, hn, _⟩ := J.loc
  have hn : sI.heap.Ns ce.locals m := hn
  rw [cL] at nC hn
  have hCs : s.heap.objs.size ∉ frs X.stack := fun hm => by
    obtain ⟨_, o', e', _⟩ := I3.stack.mem hm
    exact absurd (Heap.lt_size e') (Nat.lt_irrefl _)
  refine comp_out (X := X) (W := fun cls d _ H => E cls d H) (σ := σ) (pins := pins) hs hf hfr tk cf cL ⟨m, hn⟩ hCs nb up fl na os ag hE fun G go gC => ?_
  have bb : Un (frs X.stack) fp H H' s.heap sI.heap := J.base
  have lt : ∀ b o, s.heap.get? b = some o → b ≠ s.heap.objs.size := fun b o e => Nat.ne_of_lt (Heap.lt_size e)
  have gx : ∀ b o o', s.heap.get? b = some o → sI.heap.get? b = some o' → G.get? b = some o' := fun b o o' e q => (go b (lt b o e)).trans q
  have J3 := J.hok
  refine I3.call' (ch := fp) (s' := { sI with heap := G }) J.os { keep := fun b o e n h1 h2 => gx b o o e (bb.keep b o e n h1 h2), slot := fun b o e n h1 h2 => ?_, free := bb.free, there := fun b o e h => ?_, tups := bb.tups, frzs := bb.frzs, tbls := bb.tbls } (fun b o q => ?_) J.bare fun b hb => ⟨(f3 b hb).1.2.2.2.1, (f3 b hb).1.2.1, (f3 b hb).1.2.2.2.2.1, (f3 b hb).1.2.2.2.2.2⟩
  · obtain ⟨sl, e1⟩ := bb.slot b o e n h1 h2
    exact ⟨sl, gx b o _ e e1⟩
  · obtain ⟨o', e1⟩ := bb.there b o e h
    exact ⟨o', gx b o _ e e1⟩
  · refine (J3 b o q).stay (fun c v hc e => (go c fun z => ?_).trans e) (fun _ z => z) fun _ _ z => z
    rw [z] at hc
    rcases hc with hc | hc
    · rw [← hc, nC] at q
      cases q
    · rw [nC] at hc
      cases hc
/-- name = [elt for tg in iter] whose element may let an exception out (E) -/
theorem ps_setLcX {i : Nat} {y : Str} {py : Pos} {elt tg iter : Expr} {scope : Scope} {own : List (Str × Nat)} {pos spos : Pos} {wi : TI} {g : TG} {te : TE} {E : XK} (hs : X.stack = X.env :: X.outer) (hf : X.env.frame = some X.env.locals) (tk : Takes X fun cls d _ H => E cls d H)
    (hc : X.calm = true) (hN : X.N.Nodup) (hy : X.N[i]? = some y) (hyl : X.env.scope.names.lookup y = some .local)
    (hsw : swapsWith (.ListComp elt [⟨tg, iter, [], 0⟩] scope pos) (some (.Name y py)) spos.line X.env = pure true) (hi : PI X tg iter wi) (ok : BlkOk X.N X.env.scope scope own)
    (hg : ∀ (s : Shared) (H : Hp) (C : Addr) (cl : List (Str × Addr)) (fp : List Addr), PG (X.blk s H scope (compEnvC scope cl C X.env) fp) tg g)
    (he : ∀ (s : Shared) (H : Hp) (C : Addr) (cl : List (Str × Addr)) (fp : List Addr), Passes (L2.CX X.prog X.w) (X.blkX s H scope (compEnvC scope cl C X.env) fp) E → PE (X.blkX s H scope (compEnvC scope cl C X.env) fp) elt te)
    (hst : ∀ x, foldedSetIterable iter X.env x = pure x := by intro _; rfl) :
    PS X (.Assign [.Name y py] (.ListComp elt [⟨tg, iter, [], 0⟩] scope pos) spos) (tAsg (tLc wi g tYes te (own.map (·.2))) (gName i)) := by
  refine ⟨fun pins s0 σ H D I h => ?_⟩
  rw [exec_Assign_Name_used _ _ _ _ hsw]
  refine wpAny_bind (wpAny_standAt (wpAny_bind ?_))
  show wpAny _ X.A (do let _ ← comprehension (.ListComp elt [⟨tg, iter, [], 0⟩] scope pos) scope X.env (firstIterPos [⟨tg, iter, [], 0⟩] pos) (newList []) false (eval iter X.env) (some (assign (.Name y py) X.env))) _ _ s0
  have h : tLc wi g tYes te (own.map (·.2)) σ H (fun x H1 => gName i x σ H1 D.nx) := h
  have hfree : ∀ y ∈ scope.names, y.2 = .free → ∃ c, X.env.cells.lookup y.1 = some c := fun y hy e => by
    rcases ok.free y hy e with k | k
    · exact I.ok.has _ (.inl k)
    · exact I.ok.has _ (.inr k)
  suffices hh : wpAny (model X.prog X.w) X.A (comprehension (.ListComp elt [⟨tg, iter, [], 0⟩] scope pos) scope X.env (firstIterPos [⟨tg, iter, [], 0⟩] pos) (newList []) false (eval iter X.env) (some (assign (.Name y py) X.env))) (fun _ s' => SP X pins D .next s') X.xe s0 from
    wpAny_bind (thn hh fun _ s' hq => wpAny_pure (wpAny_pure hq))
  refine comprehension_at (use := some (assign (.Name y py) X.env)) rfl hst (closure_ok hfree) ok.kind (fun y hy e => by rw [ok.uniq y hy, e])
    (thn (hi.run pins s0 σ H _ I h) fun xv s1 hx => thn hx fun itv s2 h2 => ?_)
  obtain ⟨it, fp, tn, J, H2, e, I2, T, st2, f2, q⟩ := h2
  subst e
  refine wpAny_newObj_type (newEnv_comp ?_) (by show 0 ≤ sizeLine; decide)
  generalize hL : s2.heap.objs.size = L
  have L0 : H2 L = none := I2.hok.fresh (Nat.le_of_eq hL)
  obtain ⟨W, ⟨m0, w0⟩, turn⟩ := q L L0
  generalize hsA : ({ s2 with heap := s2.heap.push { cls := .type "list", data := .seq ([] : List Value).toArray } } : Shared) = sA
  have hA : sA.heap = s2.heap.push { cls := .type "list", data := .seq ([] : List Value).toArray } := by rw [← hsA]
  have IA : Inv X pins σ (upd H2 L (.lst [])) sA := by
    rw [← hsA]
    have obj : ObjOk X.prog X.w (upd H2 L (.lst [])) (s2.heap.push { cls := .type "list", data := .seq ([] : List Value).toArray }) L (.lst []) := ⟨Nat.zero_le _, [], 0, .nil, by rw [← hL]; exact Heap.get?_push_size _ rfl⟩
    exact I2.laid (t' := s2.toks) (fun b o e => Heap.get?_push_of_some _ e) (Nat.le_of_eq hL) obj
  have small : ∀ b ∈ fp, b < s2.heap.objs.size := fun b hb => by
    obtain ⟨o, e, _⟩ := T.obj _ _ st2 b hb
    exact Heap.lt_size e
  have fA : ∀ b ∈ fp, FpOk X pins (upd H2 L (.lst [])) b ∧ b < sA.heap.objs.size := fun b hb => by
    have lt := small b hb
    have ne : b ≠ L := by
      rw [← hL]
      exact Nat.ne_of_lt lt
    exact ⟨⟨(upd_ne ne).trans (f2 b hb).1, (f2 b hb).2⟩, by rw [hA, Heap.size_push]; exact Nat.lt_succ_of_lt lt⟩
  have stA : tn 0 sA.heap := T.keep _ _ _ st2 fun b _ o e => by rw [hA]; exact Heap.get?_push_of_some _ e
  have IB := block_start IA ok hN fA
  generalize hcl : cellsFrom (sA.heap.objs.size + 1) scope.names (cloFrom X.env.cells scope.names []) = cl at IB ⊢
  have pg := hg sA (upd H2 L (.lst [])) sA.heap.objs.size cl fp
  have pass := blkX_passes (X := X) (scope := scope) (ce := compEnvC scope cl sA.heap.objs.size X.env) hs hf tk IA rfl rfl fA
  have pe := he sA (upd H2 L (.lst [])) sA.heap.objs.size cl fp pass
  show codeAny _ _ (.compStart (.ListComp elt [⟨tg, iter, [], 0⟩] scope pos) 0 (.ref it) (.ref L) (compEnvC scope cl sA.heap.objs.size X.env)) (compEnds (model X.prog X.w) X.A X.xe (some (assign (.Name y py) X.env)) _ (.ref L) (compEnvC scope cl sA.heap.objs.size X.env)) { sA with heap := pushCells (sA.heap.push { cls := .type "dict", data := .dict #[] }) scope.names }
  have nofp : ∀ b ∈ fp, (upd H2 L (.lst [])) b = none := fun b hb => (fA b hb).1.1
  generalize hce : compEnvC scope cl sA.heap.objs.size X.env = ce at IB pg pe pass ⊢
  have cL : ce.locals = sA.heap.objs.size := by
    rw [← hce]
    all_goals rfl
  generalize hHA : upd H2 L (.lst []) = HA at IA IB pg pe pass w0 nofp fA
  generalize hsB : ({ sA with heap := pushCells (sA.heap.push { cls := .type "dict", data := .dict #[] }) scope.names } : Shared) = sB at IB ⊢
  have stB : tn 0 sB.heap := T.keep _ _ _ stA fun b _ o e => by rw [← hsB]; exact pushCells_keeps _ _ _ _ (Heap.get?_push_of_some _ e)
  have stat : ∀ {σ' : St} {H' : Hp} {s' : Shared}, Inv (X.blk sA HA scope ce fp) [] σ' H' s' → (∀ b ∈ fp, H' b = none) → ∀ b ∈ fp, FpOk (X.blk sA HA scope ce fp) [] H' b := fun {σ' H' s'} I' n b hb =>
    ⟨n b hb, (I'.ok.exf b hb).1, I'.ok.exfs b hb, .inl hb, fun x c e => (I'.ok.exf b hb).2 x c e, fun p hp => absurd (show p ∈ ([] : List (Addr × Obj)) ++ [] from hp) (by simp)⟩
  have loop : codeAny (model X.prog X.w) X.A (.compLoop (.ListComp elt [⟨tg, iter, [], 0⟩] scope pos) 0 (.ref it) (.ref L) ce) (compEnds (model X.prog X.w) X.A X.xe (some (assign (.Name y py) X.env)) (fun _ s' => SP X pins D .next s') (.ref L) ce) sB := by
    refine compLoop_any (fun n s' => ∃ j H', Inv (X.blk sA HA scope ce fp) [] (wipe σ (own.map (·.2))) H' s' ∧ tn j s'.heap ∧ (∀ b ∈ fp, H' b = none) ∧ W j n H') ?_ m0 ⟨0, HA, IB, stB, nofp, w0⟩
    rintro n s5 ⟨j, H5, I5, st5, n5, w5⟩
    rcases turn j n H5 w5 with ⟨stop, qq⟩ | ⟨go, Nx, hNx, step⟩
    · refine thnF (T.done (X.blk sA HA scope ce fp) rfl rfl rfl hc j [] s5 _ H5 (fun _ _ => False) I5 (stat I5 n5) st5 stop) fun r s6 ⟨hr, I6⟩ => ?_
      subst hr
      have I7 : Inv X pins σ H5 s6 := IA.call' (ch := fp) I6.os I6.base I6.hok I6.bare fun b hb => ⟨(fA b hb).1.2.2.2.1, (fA b hb).1.2.1, (fA b hb).1.2.2.2.2.1, (fA b hb).1.2.2.2.2.2⟩
      have nC : H5 ce.locals = none := I6.free
      obtain ⟨m, hn, _⟩ := I6.loc
      have hn : s6.heap.Ns ce.locals m := hn
      rw [cL] at nC
      have fC := IA.fpOk (Nat.le_refl _) nC
      show wpAny _ _ (assign (.Name y py) X.env (.ref L)) _ _ _
      refine wpAny_assign_Name (store_ok2 (v := V.ref L) I7 hN hy (.inl hyl) rfl (fun s8 I8 ⟨a, sb, ha⟩ => ?_) (.inr hyl))
      obtain ⟨g0, g1, g2, g3, g4, g5⟩ := fC
      have nCa : ce.locals ≠ a := by
        rw [cL]
        rcases ha with z | z
        · rw [z]
          exact g1
        · exact fun e => g4 y a z e.symm
      refine ⟨m, hn.sameBut sb nCa, fun h9 sb9 => ?_⟩
      rw [cL] at sb9
      exact ⟨_, H5, I8.turned (t' := s8.toks) (fun b o hb e => (sb9.2 b hb).trans e) g0 g1 g3 g4 g5, qq⟩
    · refine thnF (T.item (X.blk sA HA scope ce fp) rfl rfl rfl hc j [] s5 _ H5 (fun _ _ => False) I5 (stat I5 n5) st5 go) fun r s6 ⟨u, hr, h6⟩ => ?_
      subst hr
      refine thnF h6 fun _ s7 ⟨x, H7, I7, r7, y7, st7, n7⟩ => ?_
      refine thnF (pg.run _ s7 _ H7 x u _ (I7.pinned (stat I7 n7) (T.obj _ _ st7)) r7 (step x H7 y7)) fun _ s8 ⟨σ8, H8, I8, hw8, q8⟩ => ?_
      refine wpAny_tests_nil ?_
      simp only [if_true]
      have fin : ∀ {s' : Shared} {H' : Hp}, Inv (X.blk sA HA scope ce fp) ([] ++ pinsAt fp s7.heap) σ8 H' s' → Nx H' → ∃ m, m < n ∧ ∃ j H', Inv (X.blk sA HA scope ce fp) [] (wipe σ (own.map (·.2))) H' s' ∧ tn j s'.heap ∧ (∀ b ∈ fp, H' b = none) ∧ W j m H' := fun {s' H'} I' nx => by
        obtain ⟨m', hm, w'⟩ := hNx H' nx
        have pin' : ∀ b ∈ fp, ∀ o, s7.heap.get? b = some o → s'.heap.get? b = some o ∧ H' b = none := fun b hb o e => by
          have z := I'.pin (b, o) (List.mem_append_right _ (List.mem_append_right _ (mem_pinsAt hb e)))
          exact ⟨z.1, z.2.1⟩
        have len8 : (wipe σ (own.map (·.2))).length = σ8.length := by rw [← hw8, wipe_length]
        refine ⟨m', hm, j + 1, H', (I'.unpinned (pins := [])).weak len8 (fun z v e => ?_), T.keep _ _ _ st7 fun b hb o e => (pin' b hb o e).1, fun b hb => ?_, w'⟩
        · rw [← hw8] at e
          exact (wipe_some e).1
        · obtain ⟨o, e, _⟩ := T.obj _ _ st7 b hb
          exact (pin' b hb o e).2
      refine blkX_eval pe I8 q8 fun v s10 yv H10 I10 r10 hq => ?_
      obtain ⟨acc, hD, hz, nx⟩ := hq
      exact app_ok (X := X.blk sA HA scope ce fp) I10 hD hz r10 fun s11 I11 => fin I11 nx
  exact codeAny_compStart_list loop (T.self X.A 0 _ _ _ stB loop)
end
end L2
end
section
set_option maxHeartbeats 4000000
/-! Ru3: a try with two clauses, each with a name. -/
namespace L2
open PySem PySem.Spec PyProof.Rows
/-- the ends of a suite whose name (slot i) goes behind it -/
abbrev endsGo (D : Ends) (i : Nat) : Ends := { nx := fun σ' H' => D.nx (σ'.set i none) H', rt := D.rt, bk := fun σ' H' => D.bk (σ'.set i none) H', ct := fun σ' H' => D.ct (σ'.set i none) H' }
section
variable {X : Cx} {x n : Str} {c : Value} {i : Nat} {suite : List Stmt} {b₀ : Stmt} {np pos' : Pos} {ts : Addr → Value → Option Addr → TS} {hs : List ExceptHandler}
/-- one clause of the handlers, the exception on the ground -/
theorem clause_as {B : Heap} {a : Addr} {cls : Value} {d : Option Addr} {pins : List (Addr × Obj)} {σ : St} {H : Hp} {sI s : Shared} {D : Ends} {b : Bool} (hf : X.env.frame = some X.env.locals) (hstk : X.stack = X.env :: X.outer) (hN : X.N.Nodup) (hi : X.N[i]? = some n) (hln : X.env.kindOf n = some .local) (hc : Names X x c)
    (hsu : ∀ (a : Addr) (oe : Obj) (cls : Value) (d : Option Addr) (pn : List (Addr × Obj)), Zc cls d oe → (∃ vs, oe.data = .fields vs) → PSs (X.suite a ((a, oe) :: pn)) (b₀ :: suite) (ts a cls d))
    (J : Inv X pins σ H sI) (nb : ∀ b o, sI.heap.get? b = some o → b ∉ frs X.stack → B.get? b = some o) (up : sI.heap.UpToSlots s.heap) (fl : HandSPX.FlyingZ B (X.env :: X.outer) a (Zc cls d) s.heap) (na : H a = none) (os : s.os = sI.os) (ag : AllBare s.gens)
    (hb : PySem.W.exmOne X.K cls c = some b) (hyes : b = true → ts a cls d (endsGo D i) (σ.set i (some (.ref a))) H) (hno : b = false → wpAny (model X.prog X.w) X.A (handleBy (.ref a) X.env hs) (SP X pins D) X.xe s) :
    wpAny (model X.prog X.w) X.A (handleBy (.ref a) X.env (.ExceptHandler (some (.Name x np)) (some n) (b₀ :: suite) pos' :: hs)) (SP X pins D) X.xe s := by
  have ok := J.ok
  have land : ∀ {s3 : Shared}, HandSPX.FlyingZ B (X.env :: X.outer) a (Zc cls d) s3.heap → sI.heap.UpToSlots s3.heap → s3.os = sI.os → AllBare s3.gens → ∃ oe vs, Inv (X.suite a ((a, oe) :: (X.pn ++ pins))) [] σ H s3 ∧ Inv X pins σ H s3 ∧ s3.heap.get? a = some oe ∧ Zc cls d oe ∧ oe.data = .fields vs := by
    intro s3 f3 u3 o3 g3
    have J3 : Inv X pins σ H s3 := J.landed nb f3.1 u3 o3 g3
    obtain ⟨oe, vs, he, hz, hd⟩ := f3.there
    have nfr : a ∉ frs (X.env :: X.outer) := fun hm => by
      obtain ⟨_, o', e', hnf⟩ := f3.2.2.1.mem hm
      rw [he] at e'
      cases e'
      exact hnf _ hd
    have nL : a ≠ X.env.locals := fun z => nfr (List.mem_filterMap.mpr ⟨X.env, List.mem_cons_self, by rw [hf, z]⟩)
    have nF : a ∉ X.fs := fun hm => by
      obtain ⟨e, he, q⟩ := List.mem_filterMap.mp hm
      exact nfr (List.mem_filterMap.mpr ⟨e, List.mem_cons_of_mem _ he, q⟩)
    exact ⟨oe, vs, J3.suite he hd na nL nF, J3, he, hz, hd⟩
  obtain ⟨oe3, vs3, S3, J3, he3, hz3, hd3⟩ := land fl up os ag
  have hloc : Loc X.env.scope n := .inl hln
  refine wpAny_handleBy_cons (codeAny_handlers_test ?_) (by intro q; cases q)
  have LT : PySem.W.Looks (model X.prog X.w) s.heap (typeOf (.ref a)) cls := fun A Q E s k q => wpAny_typeOf_ref (k _ _ he3) (by rw [hz3.1]; exact q)
  have LM := PySem.W.exm_one (M := model X.prog X.w) J3.kIn LT hb
  have test : ∀ {Q : Value → Shared → Prop} {E : Value → Shared → Prop}, Q c s → wpAny (model X.prog X.w) (X.A.mark (some (.ref a))) (eval (.Name x np) X.env) Q E s := fun {Q E} q => by
    obtain ⟨hg, hdbg, hm | ⟨hm, hv, hnn⟩⟩ := hc
    · exact ld_glob S3 hg hm q hdbg
    · exact ld_blt S3 hg hm hv q hnn hdbg
  refine test (LM.here ?_)
  cases b with
  | false => exact hno rfl
  | true =>
    refine codeAny_handlers_suite_as ?_
    refine HandSPX.lands_againZ fl fun h4 fl4 up4 => ?_
    obtain ⟨oe4, vs4, S4, J4, he4, hz4, hd4⟩ := land (s3 := { s with heap := h4 }) fl4 (up.trans up4) os ag
    refine store_ok (X := X.suite a ((a, oe4) :: (X.pn ++ pins))) (v := .ref a) S4 hN hi hloc rfl (fun s5 S5 => ?_) (.inr hln)
    refine wpAny_mono ((hsu a oe4 cls d (X.pn ++ pins) hz4 ⟨_, hd4⟩).run [] s5 _ H _ S5 (hyes rfl)) (fun f s6 hsp => ?_) (fun _ _ z => False.elim z)
    have goes : ∀ {σ6 : St} {H6 : Hp} {Q : Shared → Prop}, Inv (X.suite a ((a, oe4) :: (X.pn ++ pins))) [] σ6 H6 s6 → (∀ s7, Inv X pins (σ6.set i none) H6 s7 → Q s7) →
        wpAny (model X.prog X.w) X.A (do bindName X.env n .none; unbindBehindTheSuite X.env n pos') (fun _ s7 => Q s7) X.xe s6 := fun {σ6 H6 Q} S6 hq => gone_ok (S6.unsuite ok) hN hi hln hq
    cases f with
    | ret u =>
      obtain ⟨v6, σ6, H6, S6, r6, q6⟩ := hsp
      exact goes S6 fun s7 J7 => ⟨_, _, _, J7, r6, q6⟩
    | next =>
      obtain ⟨σ6, H6, S6, q6⟩ := hsp
      exact goes S6 fun s7 J7 => ⟨_, _, J7, q6⟩
    | brk =>
      obtain ⟨σ6, H6, S6, q6⟩ := hsp
      exact goes S6 fun s7 J7 => ⟨_, _, J7, q6⟩
    | cont =>
      obtain ⟨σ6, H6, S6, q6⟩ := hsp
      exact goes S6 fun s7 J7 => ⟨_, _, J7, q6⟩
end
/-- what two clauses wish of an exception of the body -/
def wAs2 (K : PySem.W.Frag) (c1 c2 : Value) (i : Nat) (t1 t2 : Addr → Value → Option Addr → TS) (D : Ends) : WX := fun cls d σ H =>
  ∃ b, PySem.W.exmOne K cls c1 = some b ∧ (b = true → ∀ a, H a = none → t1 a cls d (endsGo D i) (σ.set i (some (.ref a))) H) ∧
    (b = false → PySem.W.exmOne K cls c2 = some true ∧ ∀ a, H a = none → t2 a cls d (endsGo D i) (σ.set i (some (.ref a))) H)
section
variable {X : Cx} {x1 x2 n : Str} {c1 c2 : Value} {i : Nat} {body u1 u2 : List Stmt} {b1 b2 : Stmt} {np1 np2 pos p1 p2 : Pos} {tb : WX → TS} {t1 t2 : Addr → Value → Option Addr → TS}
theorem ps_try_as2 (hs : X.stack = X.env :: X.outer) (hf : X.env.frame = some X.env.locals) (hN : X.N.Nodup) (hi : X.N[i]? = some n) (hln : X.env.kindOf n = some .local) (hc1 : Names X x1 c1) (hc2 : Names X x2 c2)
    (hb : ∀ (W : WX) (pn : List (Addr × Obj)) (xe : Value → Shared → Prop), Takes (X.tr pn xe) W → PassesOwn (model X.prog X.w) X.A X.env xe → PSs (X.tr pn xe) body (tb W))
    (hs1 : ∀ (a : Addr) (oe : Obj) (cls : Value) (d : Option Addr) (pn : List (Addr × Obj)), Zc cls d oe → (∃ vs, oe.data = .fields vs) → PSs (X.suite a ((a, oe) :: pn)) (b1 :: u1) (t1 a cls d))
    (hs2 : ∀ (a : Addr) (oe : Obj) (cls : Value) (d : Option Addr) (pn : List (Addr × Obj)), Zc cls d oe → (∃ vs, oe.data = .fields vs) → PSs (X.suite a ((a, oe) :: pn)) (b2 :: u2) (t2 a cls d)) :
    PS X (.Try body [.ExceptHandler (some (.Name x1 np1)) (some n) (b1 :: u1) p1, .ExceptHandler (some (.Name x2 np2)) (some n) (b2 :: u2) p2] [] [] pos) (fun D σ H => tb (wAs2 X.K c1 c2 i t1 t2 D) D σ H) := by
  refine ⟨fun pins s σ H D I h => ?_⟩
  have ok := I.ok
  have hfr : X.A.frames = some (X.env :: X.outer) := by rw [ok.frames, hs]
  refine wpAny_Try_except ?_
  refine wpAny_mono ((hb (wAs2 X.K c1 c2 i t1 t2 D) (X.pn ++ pins) (fun e s₁ => wpAny (model X.prog X.w) X.A (noteFrame e X.env) (fun _ s₂ => wpAny (model X.prog X.w) X.A (setFlight e none) (fun _ s₃ =>
    wpAny (model X.prog X.w) X.A (handleBy e X.env [.ExceptHandler (some (.Name x1 np1)) (some n) (b1 :: u1) p1, .ExceptHandler (some (.Name x2 np2)) (some n) (b2 :: u2) p2]) (SP X pins D) X.xe s₃) X.xe s₂) X.xe s₁) (fun u s' xx => ?_) PassesOwn.looking).run [] s σ H D (I.toTry _) h) (fun f s1 hsp => ?_) (fun e s1 he => he)
  · obtain ⟨a, B, sI, pins', σ', H', cls, d, rfl, J', nb, up, sky, na, os, ag, b, hb1, hyes, hno⟩ := xx
    have J : Inv X pins σ' H' sI := J'.ofTry ok
    have sky' : Sky B (X.env :: X.outer) a (Zc cls d) X.env.locals s'.heap := by rw [← hs]; exact sky
    show wpAny (model X.prog X.w) X.A (noteFrame (.ref a) X.env) _ _ _
    refine Sky.land Zc.steady hfr hf sky' fun h3 fl3 up3 => ?_
    refine clause_as (s := { s' with heap := h3 }) hf hs hN hi hln hc1 hs1 J nb (up.trans up3) fl3 na os ag hb1 (fun e => hyes e a na) fun e => ?_
    obtain ⟨hb2, hy2⟩ := hno e
    exact clause_as (s := { s' with heap := h3 }) hf hs hN hi hln hc2 hs2 J nb (up.trans up3) fl3 na os ag hb2 (fun _ => hy2 a na) fun e => absurd e (by decide)
  · cases f with
    | next =>
      obtain ⟨σ', H', J', q⟩ := hsp
      exact wpAny_execs_nil ⟨σ', H', J'.ofTry ok, q⟩
    | ret u =>
      obtain ⟨v, σ', H', J', r, q⟩ := hsp
      exact ⟨v, σ', H', J'.ofTry ok, r, q⟩
    | brk =>
      obtain ⟨σ', H', J', q⟩ := hsp
      exact ⟨σ', H', J'.ofTry ok, q⟩
    | cont =>
      obtain ⟨σ', H', J', q⟩ := hsp
      exact ⟨σ', H', J'.ofTry ok, q⟩
end
end L2
end
section
set_option maxHeartbeats 4000000
/-! Lw: words of the walk. -/
namespace Hf
open PySem PySem.Spec PyProof.Rows L2
/-! ### the heap -/
theorem Ext.rfl' {H : Hp} : Ext H H := fun _ _ e => e
theorem Ext.new {H H' : Hp} {p : Addr} {o : HO} (x : Ext H H') (n : H' p = none) : Ext H (upd H' p o) := fun b u e => by
  rw [upd_ne (ne_of_none (x b u e) n)]
  exact x b u e
theorem Ext.free {H H' : Hp} {p : Addr} (x : Ext H H') (n : H' p = none) : H p = none := by
  cases q : H p with
  | none => rfl
  | some o =>
    rw [x p o q] at n
    cases n
/-- all but m is kept -/
def ExtB (m : Addr) (H H' : Hp) : Prop := ∀ b o, b ≠ m → H b = some o → H' b = some o
theorem ExtB.rfl' {m : Addr} {H : Hp} : ExtB m H H := fun _ _ _ e => e
theorem ExtB.of {m : Addr} {H H' : Hp} (x : Ext H H') : ExtB m H H' := fun b o _ e => x b o e
theorem ExtB.trans {m : Addr} {H H1 H2 : Hp} (a : ExtB m H H1) (b : ExtB m H1 H2) : ExtB m H H2 := fun c o n e => b c o n (a c o n e)
theorem ExtB.new {m : Addr} {H H' : Hp} {p : Addr} {o : HO} (x : ExtB m H H') (n : H' p = none) : ExtB m H (upd H' p o) := fun b u nb e => by
  rw [upd_ne (ne_of_none (x b u nb e) n)]
  exact x b u nb e
theorem ExtB.put {m : Addr} {H H' : Hp} {o : HO} (x : ExtB m H H') : ExtB m H (upd H' m o) := fun b u nb e => by
  rw [upd_ne nb]
  exact x b u nb e
/-- what was not there is changed at will -/
theorem ExtB.gone {m : Addr} {H H1 H2 : Hp} (a : Ext H H1) (n : H m = none) (b : ExtB m H1 H2) : Ext H H2 := fun c o e => b c o (ne_of_none e n) (a c o e)
/-- the tuples are kept -/
def TK (H H' : Hp) : Prop := ∀ a xs, H a = some (.tup xs) → H' a = some (.tup xs)
theorem TK.of {H H' : Hp} (x : Ext H H') : TK H H' := fun a xs e => x a _ e
theorem TK.ofB {m : Addr} {H H' : Hp} (x : ExtB m H H') (h : ∀ xs, H m ≠ some (.tup xs)) : TK H H' := fun a xs e => x a _ (fun z => h xs (by rw [← z]; exact e)) e
theorem TK.trans {H H1 H2 : Hp} (a : TK H H1) (b : TK H1 H2) : TK H H2 := fun c o e => b c o (a c o e)
theorem TK.put {H : Hp} {m : Addr} {o : HO} (h : ∀ xs, H m ≠ some (.tup xs)) : TK H (upd H m o) := fun a xs e => by
  rw [upd_ne fun z => h xs (by rw [← z]; exact e)]
  exact e
/-! ### values of tuples alone -/
mutual
inductive Tp (H : Hp) : V → PyData → Prop
  | non : Tp H .non .none
  | int (i : Int) : Tp H (.int i) (.int i)
  | str (x : Str) : Tp H (.str x) (.str x)
  | tup {a : Addr} {xs : List V} {ds : List PyData} : H a = some (.tup xs) → TpL H xs ds → Tp H (.ref a) (.tuple ds)
inductive TpL (H : Hp) : List V → List PyData → Prop
  | nil : TpL H [] []
  | cons {v : V} {vs : List V} {d : PyData} {ds : List PyData} : Tp H v d → TpL H vs ds → TpL H (v :: vs) (d :: ds)
end
mutual
theorem Tp.mono {H H' : Hp} (k : TK H H') : ∀ (d : PyData) (v : V), Tp H v d → Tp H' v d
  | .none, _, h => by
    cases h
    exact .non
  | .int _, _, h => by
    cases h
    exact .int _
  | .str _, _, h => by
    cases h
    exact .str _
  | .tuple ds, _, h => by
    cases h with
    | tup e t => exact .tup (k _ _ e) (TpL.mono k ds _ t)
  | .bool _, _, h => by cases h
  | .list _, _, h => by cases h
  | .dict _, _, h => by cases h
theorem TpL.mono {H H' : Hp} (k : TK H H') : ∀ (ds : List PyData) (vs : List V), TpL H vs ds → TpL H' vs ds
  | [], _, h => by
    cases h
    exact .nil
  | d :: ds, _, h => by
    cases h with
    | cons a b => exact .cons (Tp.mono k d _ a) (TpL.mono k ds _ b)
end
mutual
theorem Tp.dp {K : Fg} {H : Hp} : ∀ (d : PyData) (v : V), Tp H v d → Dp K H v d
  | .none, _, h => by
    cases h
    exact .non
  | .int _, _, h => by
    cases h
    exact .int _
  | .str _, _, h => by
    cases h
    exact .str _
  | .tuple ds, _, h => by
    cases h with
    | tup e t => exact .tup (SqT.of e) (TpL.dp ds _ t)
  | .bool _, _, h => by cases h
  | .list _, _, h => by cases h
  | .dict _, _, h => by cases h
theorem TpL.dp {K : Fg} {H : Hp} : ∀ (ds : List PyData) (vs : List V), TpL H vs ds → DpAll K H vs ds
  | [], _, h => by
    cases h
    exact .nil
  | d :: ds, _, h => by
    cases h with
    | cons a b => exact .cons (Tp.dp d _ a) (TpL.dp ds _ b)
end
theorem TpL.length {H : Hp} : ∀ {vs : List V} {ds : List PyData}, TpL H vs ds → vs.length = ds.length
  | _, [], h => by
    cases h
    rfl
  | _, d :: ds, h => by
    cases h with
    | cons a b => exact congrArg (· + 1) b.length
theorem TpL.app {H : Hp} : ∀ {vs ws : List V} {ds es : List PyData}, TpL H vs ds → TpL H ws es → TpL H (vs ++ ws) (ds ++ es)
  | _, _, [], _, h, g => by
    cases h
    exact g
  | _, _, d :: ds, _, h, g => by
    cases h with
    | cons a b => exact .cons a (b.app g)
theorem TpL.get {H : Hp} : ∀ {vs : List V} {ds : List PyData} {i : Nat} {v : V}, TpL H vs ds → vs[i]? = some v → ∃ d, ds[i]? = some d ∧ Tp H v d
  | _, [], i, v, h, e => by
    cases h
    cases i <;> cases e
  | _, d :: ds, 0, v, h, e => by
    cases h with
    | cons a b =>
      cases e
      exact ⟨d, rfl, a⟩
  | _, d :: ds, i + 1, v, h, e => by
    cases h with
    | cons a b => exact TpL.get (i := i) b e
theorem TpL.ints {H : Hp} : ∀ ns : List Int, TpL H (ns.map .int) (ns.map .int)
  | [] => .nil
  | n :: r => .cons (.int n) (TpL.ints r)
theorem TpL.ints_eq {H : Hp} : ∀ {vs : List V} {ns : List Int}, TpL H vs (ns.map .int) → vs = ns.map .int
  | _, [], h => by
    cases h
    rfl
  | _, n :: r, h => by
    cases h with
    | cons a b =>
      cases a
      rw [TpL.ints_eq b] <;> rfl
theorem Tp.op {H : Hp} {v : V} {o : Op} (h : Tp H v (opD o)) : ∃ p, v = .ref p ∧ H p = some (.tup (.str o.1 :: o.2.map .int)) := by
  cases h with
  | tup e t =>
    cases t with
    | cons a b =>
      cases a
      rw [TpL.ints_eq b] at e
      exact ⟨_, rfl, e⟩
theorem Tp.of_op {H : Hp} {p : Addr} {o : Op} (h : H p = some (.tup (.str o.1 :: o.2.map .int))) : Tp H (.ref p) (opD o) := .tup h (.cons (.str _) (TpL.ints _))
/-! ### the promise of a def by its body -/
section
variable {P : Program} {w : World} {K : Fg} {mg : Str → Option Value} {base : Heap}
abbrev Cal0 (P : Program) (w : World) (K : Fg) (mg : Str → Option Value) (base : Heap) (k : Nat) (x : Str) (sp : Sp) : Prop := C8.Cal P w K mg base k x sp []
/-- a def that may let an exception out -/
structure CalX (P : Program) (w : World) (K : Fg) (mg : Str → Option Value) (base : Heap) (k : Nat) (x : Str) (sp : Sp) : Prop where
  ex : ∃ (f : Addr) (fd : FuncData) (ps : List Str), FnOk P w K mg base (L2.CX P w) k f fd ps sp ∧ mg x = some (.ref f) ∧ PySem.W.keepIn K (.ref f) = true ∧ Binds K fd ps []
theorem cal_of {x : Str} {st : Stmt} {i : Nat} {N ps : List Str} {k : Nat} {sp : Sp} (T : Txt K mg w) (hi : fns[i]? = some (dG x st)) (hx : x ∈ glos) (S : FnScope N ps (defScope st))
    (hb : ∀ (kV doc pm : Value) (an : Option Addr) (cdv ct : Value) (us : List Value), us.length = ps.length → bindArgs (PySem.W.fnOf x x (defArgs st) (defBody st) (defScope st) .none kV doc pm an cdv ct) ⟨us, []⟩ = pure (ps.zip us)) (len : ∀ vs H Q E, sp vs H Q E → vs.length = ps.length)
    (hbody : ∀ (f : Addr) (cdv : Value) (A : Around) (outer : List Env) (s : Shared) (H : Hp) (vs : List V) (Q : VK) (E : XK), Room k (A.deeper (envOfC x (defScope st) s.heap.objs.size f cdv)) → sp vs H Q E →
      ∃ t, PSs (cxOf L2.CX0 P w K mg base N x (defScope st) f cdv A outer s H E).nox (defBody st) t ∧ t { nx := fun _ H' => Q .non H', rt := Q } (L2.start N vs) H) : Cal0 P w K mg base (k + 1) x sp := by
  obtain ⟨fd, F⟩ := T.def_ i _ hi
  have F : FnP K x st (gA x K) fd := F
  refine ⟨gA x K, fd, ps, [], F.ok S len fun cdv A outer s H vs Q E hr h => ?_, T.glo x hx, F.kp, F.bindsN hb, .nil⟩
  obtain ⟨t, z, q⟩ := hbody (gA x K) cdv A outer s H vs Q E hr h
  exact ⟨t, z.nox, q⟩
theorem calX_of {x : Str} {st : Stmt} {i : Nat} {N ps : List Str} {k : Nat} {sp : Sp} (T : Txt K mg w) (hi : fns[i]? = some (dG x st)) (hx : x ∈ glos) (S : FnScope N ps (defScope st))
    (hb : ∀ (kV doc pm : Value) (an : Option Addr) (cdv ct : Value) (us : List Value), us.length = ps.length → bindArgs (PySem.W.fnOf x x (defArgs st) (defBody st) (defScope st) .none kV doc pm an cdv ct) ⟨us, []⟩ = pure (ps.zip us)) (len : ∀ vs H Q E, sp vs H Q E → vs.length = ps.length)
    (hbody : ∀ (f : Addr) (cdv : Value) (A : Around) (outer : List Env) (s : Shared) (H : Hp) (vs : List V) (Q : VK) (E : XK), Room k (A.deeper (envOfC x (defScope st) s.heap.objs.size f cdv)) → sp vs H Q E →
      ∃ t, PSs (cxOf (L2.CX P w) P w K mg base N x (defScope st) f cdv A outer s H E) (defBody st) t ∧ t { nx := fun _ H' => Q .non H', rt := Q } (L2.start N vs) H) : CalX P w K mg base (k + 1) x sp := by
  obtain ⟨fd, F⟩ := T.def_ i _ hi
  have F : FnP K x st (gA x K) fd := F
  exact ⟨gA x K, fd, ps, F.ok S len fun cdv A outer s H vs Q E hr h => hbody (gA x K) cdv A outer s H vs Q E hr h, T.glo x hx, F.kp, F.bindsN hb⟩
end
section
variable {X : Cx} {k j : Nat} {x : Str} {sp : Sp} {E : XK} {p pos : Pos} {e : Expr} {es : List Expr} {t : TA}
theorem pe_x (c : CalX X.prog X.w X.K X.mg X.base k x sp) (hr : Room j X.A) (hk : k ≤ j) (hx : Passes (L2.CX X.prog X.w) X E) (hg : Gl X x) (ha : PA X (e :: es) t)
    (hdb : (x == ("__debug__" : Str)) = false := by decide) (he : starEach (e :: es) X.env = (false, eval e X.env) :: starEach es X.env := by rfl) (hpl : (backTo pos (starEach es X.env)).any (·.1) = false := by rfl) :
    PE X (.Call (.Name x p) (e :: es) [] pos) (tCall sp [] E t) := by
  obtain ⟨f, fd, ps, F, hm, kp, b⟩ := c.ex
  exact pe_call F (hr.mono hk) hg hm kp b .nil hx ha hdb he hpl
end
/-! ### comprehensions -/
/-- a comprehension whose element leaves what stands: the items one by one told by R -/
theorem lc_ext {J : It} {n : Nat} {G : Hp → Prop} {Y : Nat → Hp → V → Hp → Prop} {g : TG} {te : TE} {vs : List Nat} {σ : L2.St} {H1 : Hp} {D : Addr} {Qd : Hp → Prop} (w : Walk J n G Y) (R : Nat → Hp → V → Prop) (hR : ∀ i H H' y, TK H H' → R i H y → R i H' y) (hD : H1 D = none) (hn : n ≤ 100000) (hG : ∀ H, Ext H1 H → G H)
    (hs : ∀ i x H H' (C : VK), i < n → Ext H1 H → Y i H x H' → (∀ y H4, Ext H H4 → R i H4 y → C y H4) → g x (wipe σ vs) H' fun σ2 H2 => wipe σ2 vs = wipe σ vs ∧ te σ2 H2 C)
    (hd : ∀ H ys, Ext H1 H → H D = some (.lst ys) → ys.length = n → (∀ i y, ys[i]? = some y → R i H y) → Qd H) :
    ∃ W : Nat → Nat → Hp → Prop, (∃ m, W 0 m (upd H1 D (.lst []))) ∧ ∀ i m H, W i m H →
      (J.stop i H ∧ Qd H) ∨ (J.go i H ∧ ∃ Nx : Hp → Prop, (∀ H', Nx H' → ∃ m', m' < m ∧ W (i + 1) m' H') ∧ ∀ x H', J.yld i H x H' → g x (wipe σ vs) H' fun σ2 H2 => wipe σ2 vs = wipe σ vs ∧ tYes σ2 H2 fun b H3 =>
        if b = true then te σ2 H3 fun y H4 => ∃ acc, H4 D = some (.lst acc) ∧ acc.length < sizeLine ∧ Nx (upd H4 D (.lst (acc ++ [y]))) else Nx H3) := by
  refine lc_it w (fun i H => Ext H1 H ∧ ∃ ys, H D = some (.lst ys) ∧ ys.length = i ∧ ∀ i y, ys[i]? = some y → R i H y) ⟨Ext.new Ext.rfl' hD, [], upd_same, rfl, fun i y e => by simp at e⟩ (fun i H _ h => hG H h.1) ?_ (fun H h => ?_)
  · rintro i x H H' hi ⟨hE, ys, hL, hl, hr⟩ hy
    refine hs i x H H' (fun y H4 => ∃ acc, H4 D = some (.lst acc) ∧ acc.length < sizeLine ∧ (Ext H1 (upd H4 D (.lst (acc ++ [y]))) ∧ ∃ ys, (upd H4 D (.lst (acc ++ [y]))) D = some (.lst ys) ∧ ys.length = i + 1 ∧ ∀ i z, ys[i]? = some z → R i (upd H4 D (.lst (acc ++ [y]))) z)) hi hE hy fun y H4 k4 r4 => ?_
    have hL4 := k4 D _ hL
    have tk : TK H4 (upd H4 D (.lst (ys ++ [y]))) := TK.put fun xs q => by
      rw [hL4] at q
      cases q
    refine ⟨ys, hL4, by rw [hl, sizeLine_eq]; omega, fun b o e => ?_, ys ++ [y], upd_same, by rw [List.length_append, hl]; rfl, fun j z ez => ?_⟩
    · rw [upd_ne (ne_of_none e hD)]
      exact k4 b o (hE b o e)
    · rcases Nat.lt_trichotomy j ys.length with q | q | q
      · rw [List.getElem?_append_left q] at ez
        exact hR _ _ _ _ (TK.trans (TK.of k4) tk) (hr j z ez)
      · subst q
        rw [List.getElem?_append_right (Nat.le_refl _), Nat.sub_self] at ez
        cases ez
        rw [hl]
        exact hR _ _ _ _ tk r4
      · rw [List.getElem?_eq_none (by rw [List.length_append]; show ys.length + 1 ≤ j; omega)] at ez
        cases ez
  · obtain ⟨hE, ys, hL, hl, hr⟩ := h
    exact hd H ys hE hL hl hr
/-- .. whose items are known: the list that comes -/
theorem list_of {f : Nat → V} {n : Nat} {ys : List V} (hl : ys.length = n) (h : ∀ (i : Nat) (y : V), ys[i]? = some y → y = f i) : ys = (List.range n).map f := by
  refine List.ext_getElem? fun i => ?_
  by_cases q : i < n
  · have e : ys[i]? = some (ys[i]'(by omega)) := List.getElem?_eq_getElem (by omega)
    rw [e, h i _ e, List.getElem?_map, List.getElem?_range q] <;> rfl
  · rw [List.getElem?_eq_none (by omega), List.getElem?_eq_none (by rw [List.length_map, List.length_range]; omega)]
theorem list_map {α : Type} {xs : List α} {f : α → V} {ys : List V} (hl : ys.length = xs.length) (h : ∀ (i : Nat) (y : V), ys[i]? = some y → ∃ x, xs[i]? = some x ∧ y = f x) : ys = xs.map f := by
  refine List.ext_getElem? fun i => ?_
  rw [List.getElem?_map]
  by_cases q : i < ys.length
  · have e : ys[i]? = some (ys[i]'q) := List.getElem?_eq_getElem q
    obtain ⟨x, ex, ey⟩ := h i _ e
    rw [e, ex, ey] <;> rfl
  · rw [List.getElem?_eq_none (by omega), List.getElem?_eq_none (by omega)] <;> rfl
theorem TpL.of_get {H : Hp} : ∀ {ys : List V} {ds : List PyData}, ys.length = ds.length → (∀ (i : Nat) y d, ys[i]? = some y → ds[i]? = some d → Tp H y d) → TpL H ys ds
  | [], [], _, _ => .nil
  | [], _ :: _, h, _ => by cases h
  | _ :: _, [], h, _ => by cases h
  | y :: ys, d :: ds, h, r => .cons (r 0 y d rfl rfl) (TpL.of_get (by simpa using h) fun i y d e1 e2 => r (i + 1) y d e1 e2)
end Hf
end
section
set_option maxHeartbeats 4000000
/-! Sp: a text split at a sign. -/
namespace Hf
open PySem PySem.Spec PyProof.Rows L2
/-- the parts of a text between the signs c -/
def pieces (c : Nat) : List Nat → List (List Nat)
  | [] => [[]]
  | d :: r => if d = c then [] :: pieces c r else match pieces c r with
    | [] => [[d]]
    | p :: ps => (d :: p) :: ps
theorem pieces_ne (c : Nat) : ∀ l : List Nat, pieces c l ≠ []
  | [] => List.cons_ne_nil _ _
  | d :: r => by
    unfold pieces
    split
    · exact List.cons_ne_nil _ _
    · split <;> exact List.cons_ne_nil _ _
theorem pieces_cons (c : Nat) (l : List Nat) : ∃ p ps, pieces c l = p :: ps := by
  cases e : pieces c l with
  | nil => exact absurd e (pieces_ne c l)
  | cons p ps => exact ⟨p, ps, rfl⟩
theorem pieces_hit (c : Nat) (r : List Nat) : pieces c (c :: r) = [] :: pieces c r := by
  show (if c = c then _ else _) = _
  rw [if_pos rfl]
theorem pieces_miss {c d : Nat} {r p : List Nat} {ps : List (List Nat)} (h : ¬ d = c) (e : pieces c r = p :: ps) : pieces c (d :: r) = (d :: p) :: ps := by
  show (if d = c then _ else _) = _
  rw [if_neg h, e]
theorem spl_pieces (c : Nat) : ∀ (l acc p : List Nat) (ps : List (List Nat)), pieces c l = p :: ps → TL.spl [c] 0 acc l = (acc ++ p) :: ps
  | [], acc, p, ps, e => by
    cases e
    rw [TL.spl_nil, List.append_nil]
  | d :: r, acc, p, ps, e => by
    obtain ⟨q, qs, e2⟩ := pieces_cons c r
    by_cases h : d = c
    · subst h
      rw [pieces_hit] at e
      cases e
      have hp : TL.pre [d] (d :: r) = true := by
        show ((d :: r).take 1 == [d]) = true
        exact beq_self_eq_true _
      rw [TL.spl_hit hp, e2]
      show acc :: TL.spl [d] 0 [] r = (acc ++ []) :: (q :: qs)
      rw [spl_pieces d r [] q qs e2, List.nil_append, List.append_nil]
    · rw [pieces_miss h e2] at e
      cases e
      have hp : TL.pre [c] (d :: r) = false := TL.pre_of_head _ _ fun z => h z
      rw [TL.spl_miss hp, spl_pieces c r (acc ++ [d]) q ps e2, List.append_assoc]
      rfl
theorem split_pieces (c : Nat) (hc : c < 256) (a : List Nat) : Txt.split (SX.S a) (SX.S [c]) = (pieces c a).map SX.S := by
  rw [SX.split_S (List.cons_ne_nil _ _) (by simp [hc])]
  obtain ⟨p, ps, e⟩ := pieces_cons c a
  rw [spl_pieces c a [] p ps e, e, List.nil_append]
theorem sp_S : sp = SX.S [32] := by decide +kernel
theorem nl_S : nl = SX.S [10] := by decide +kernel
theorem split_sp (x : Str) : Txt.split x sp = (pieces 32 x.cps.toList).map SX.S := by
  have e := split_pieces 32 (by decide) x.cps.toList
  rw [SX.S_tl, ← sp_S] at e
  exact e
theorem split_nl (x : Str) : Txt.split x nl = (pieces 10 x.cps.toList).map SX.S := by
  have e := split_pieces 10 (by decide) x.cps.toList
  rw [SX.S_tl, ← nl_S] at e
  exact e
theorem pieces_len (c : Nat) : ∀ l : List Nat, (pieces c l).length ≤ l.length + 1
  | [] => Nat.le_refl _
  | d :: r => by
    obtain ⟨q, qs, e⟩ := pieces_cons c r
    have ih := pieces_len c r
    by_cases h : d = c
    · subst h
      rw [pieces_hit, List.length_cons, List.length_cons]
      omega
    · rw [pieces_miss h e, List.length_cons, List.length_cons]
      rw [e, List.length_cons] at ih
      omega
/-- each part is no longer than the text -/
theorem pieces_small (c : Nat) : ∀ (l p : List Nat), p ∈ pieces c l → p.length ≤ l.length
  | [], p, h => by
    rw [List.mem_singleton.mp h]
    exact Nat.le_refl _
  | d :: r, p, h => by
    obtain ⟨q, qs, e⟩ := pieces_cons c r
    by_cases hd : d = c
    · subst hd
      rw [pieces_hit] at h
      rcases List.mem_cons.mp h with z | z
      · rw [z]
        exact Nat.zero_le _
      · exact Nat.le_succ_of_le (pieces_small d r p z)
    · rw [pieces_miss hd e] at h
      rcases List.mem_cons.mp h with z | z
      · rw [z]
        exact Nat.succ_le_succ (pieces_small c r q (by rw [e]; exact List.mem_cons_self))
      · exact Nat.le_succ_of_le (pieces_small c r p (by rw [e]; exact List.mem_cons_of_mem _ z))
theorem pieces_no (c : Nat) : ∀ (l p : List Nat), p ∈ pieces c l → c ∉ p
  | [], p, h => by
    rw [List.mem_singleton.mp h]
    exact List.not_mem_nil
  | d :: r, p, h => by
    obtain ⟨q, qs, e⟩ := pieces_cons c r
    by_cases hd : d = c
    · subst hd
      rw [pieces_hit] at h
      rcases List.mem_cons.mp h with z | z
      · rw [z]
        exact List.not_mem_nil
      · exact pieces_no d r p z
    · rw [pieces_miss hd e] at h
      rcases List.mem_cons.mp h with z | z
      · rw [z]
        intro m
        rcases List.mem_cons.mp m with w | w
        · exact hd w.symm
        · exact pieces_no c r q (by rw [e]; exact List.mem_cons_self) w
      · exact pieces_no c r p (by rw [e]; exact List.mem_cons_of_mem _ z)
/-- a sign of a part is a sign of the text -/
theorem pieces_sub (c : Nat) : ∀ (l p : List Nat) (x : Nat), p ∈ pieces c l → x ∈ p → x ∈ l
  | [], p, x, h, m => by
    rw [List.mem_singleton.mp h] at m
    exact m
  | d :: r, p, x, h, m => by
    obtain ⟨q, qs, e⟩ := pieces_cons c r
    by_cases hd : d = c
    · subst hd
      rw [pieces_hit] at h
      rcases List.mem_cons.mp h with z | z
      · rw [z] at m
        cases m
      · exact List.mem_cons_of_mem _ (pieces_sub d r p x z m)
    · rw [pieces_miss hd e] at h
      rcases List.mem_cons.mp h with z | z
      · rw [z] at m
        rcases List.mem_cons.mp m with w | w
        · rw [w]
          exact List.mem_cons_self
        · exact List.mem_cons_of_mem _ (pieces_sub c r q x (by rw [e]; exact List.mem_cons_self) w)
      · exact List.mem_cons_of_mem _ (pieces_sub c r p x (by rw [e]; exact List.mem_cons_of_mem _ z) m)
/-- no sign c within: one part -/
theorem pieces_one {c : Nat} : ∀ {l : List Nat}, c ∉ l → pieces c l = [l]
  | [], _ => rfl
  | d :: r, h => pieces_miss (fun z => h (by rw [z]; exact List.mem_cons_self)) (pieces_one fun z => h (List.mem_cons_of_mem _ z))
/-- a part without c, c, the rest -/
theorem pieces_app {c : Nat} : ∀ {p : List Nat} (q : List Nat), c ∉ p → pieces c (p ++ c :: q) = p :: pieces c q
  | [], q, _ => pieces_hit c q
  | d :: r, q, h => pieces_miss (fun z => h (by rw [z]; exact List.mem_cons_self)) (pieces_app q fun z => h (List.mem_cons_of_mem _ z))
/-- the first part and what follows it -/
theorem pieces_first {c : Nat} : ∀ {l p : List Nat} {ps : List (List Nat)}, pieces c l = p :: ps → (ps = [] ∧ l = p) ∨ ∃ q, l = p ++ c :: q ∧ pieces c q = ps
  | [], p, ps, e => by
    cases e
    exact .inl ⟨rfl, rfl⟩
  | d :: r, p, ps, e => by
    obtain ⟨q, qs, e2⟩ := pieces_cons c r
    by_cases hd : d = c
    · subst hd
      rw [pieces_hit] at e
      cases e
      exact .inr ⟨r, rfl, rfl⟩
    · rw [pieces_miss hd e2] at e
      cases e
      rcases pieces_first e2 with ⟨z1, z2⟩ | ⟨y, z1, z2⟩
      · exact .inl ⟨z1, by rw [← z2]⟩
      · exact .inr ⟨y, by rw [z1] <;> rfl, z2⟩
/-- joined, then parted -/
theorem pieces_join {c : Nat} : ∀ {ps : List (List Nat)}, ps ≠ [] → (∀ p ∈ ps, c ∉ p) → pieces c (TL.joinL [c] ps) = ps
  | [], h, _ => absurd rfl h
  | [p], _, h => pieces_one (h p List.mem_cons_self)
  | p :: q :: r, _, h => by
    have e := pieces_app (c := c) (TL.joinL [c] (q :: r)) (h p List.mem_cons_self)
    have ih := pieces_join (c := c) (ps := q :: r) (List.cons_ne_nil _ _) fun x hx => h x (List.mem_cons_of_mem _ hx)
    rw [ih] at e
    exact e
theorem split_cons (x : Str) : Txt.split x sp = wordOf x :: tailOf x := by
  obtain ⟨p, ps, e⟩ := pieces_cons 32 x.cps.toList
  unfold wordOf tailOf
  rw [split_sp, e] <;> rfl
theorem tail_len (x : Str) : (tailOf x).length ≤ x.length := by
  have e := congrArg List.length (split_cons x)
  rw [split_sp, List.length_map, List.length_cons] at e
  have z := pieces_len 32 x.cps.toList
  have l : x.cps.toList.length = x.length := Array.length_toList
  omega
theorem part_len {x p : Str} (h : p ∈ Txt.split x sp) : p.length ≤ x.length := by
  rw [split_sp] at h
  obtain ⟨q, hq, rfl⟩ := List.mem_map.mp h
  have z := pieces_small 32 _ q hq
  have l : x.cps.toList.length = x.length := Array.length_toList
  rw [SX.S_len]
  omega
end Hf
end
section
set_option maxHeartbeats 4000000
/-! Md: the mirror of the threads, program by program. -/
namespace Hf
open PySem PySem.Spec PyProof.Rows L2
/-- the operations up to the next thread (or end), and the place behind them -/
def takeOps : List Str → Nat → Except Nat (List Op × Nat)
  | [], p => .ok ([], p)
  | l :: r, p => if wordOf l = "thread" ∨ wordOf l = "end" then .ok ([], p) else match opOf l with
    | none => .error (p + 1)
    | some o => match takeOps r (p + 1) with
      | .error e => .error e
      | .ok (os, q) => .ok (o :: os, q)
def pre (ops : List Op) : Except Nat (List Op × Nat) → Except Nat (List Op × Nat)
  | .error e => .error e
  | .ok (os, q) => .ok (ops ++ os, q)
theorem pre_nil (x : Except Nat (List Op × Nat)) : pre [] x = x := by
  cases x with
  | error e => rfl
  | ok y => rfl
theorem pre_snoc (ops : List Op) (o : Op) {r : List Str} {p : Nat} : pre ops (match takeOps r (p + 1) with
      | .error e => .error e
      | .ok (os, q) => .ok (o :: os, q)) = pre (ops ++ [o]) (takeOps r (p + 1)) := by
  cases takeOps r (p + 1) with
  | error e => rfl
  | ok y =>
    obtain ⟨os, q⟩ := y
    show Except.ok (ops ++ o :: os, q) = Except.ok ((ops ++ [o]) ++ os, q)
    rw [List.append_assoc] <;> rfl
theorem take_nil (p : Nat) : takeOps [] p = .ok ([], p) := rfl
theorem take_stop {l : Str} {r : List Str} {p : Nat} (h : wordOf l = "thread" ∨ wordOf l = "end") : takeOps (l :: r) p = .ok ([], p) := by
  unfold takeOps
  rw [if_pos h]
theorem take_bad {l : Str} {r : List Str} {p : Nat} (h : ¬ (wordOf l = "thread" ∨ wordOf l = "end")) (e : opOf l = none) : takeOps (l :: r) p = .error (p + 1) := by
  unfold takeOps
  rw [if_neg h, e]
theorem take_op {l : Str} {r : List Str} {p : Nat} {o : Op} (h : ¬ (wordOf l = "thread" ∨ wordOf l = "end")) (e : opOf l = some o) : takeOps (l :: r) p = match takeOps r (p + 1) with
      | .error e => .error e
      | .ok (os, q) => .ok (o :: os, q) := by
  conv => lhs; unfold takeOps
  rw [if_neg h, e]
theorem op_word {l : Str} {o : Op} (h : opOf l = some o) : opBounds (wordOf l) ≠ none := fun e => by
  unfold opOf at h
  split at h
  · rename_i q
    unfold isOpB at q
    rw [e] at q
    cases q
  · cases h
theorem op_end {l : Str} (h : wordOf l = "end") : opOf l = none := by
  cases e : opOf l with
  | none => rfl
  | some o => exact absurd (by rw [h]; decide +kernel) (op_word e)
/-- where the operations end: no row, a thread, or an end -/
def Stop (rows : List Str) (p : Nat) : Prop := ∀ l, rows[p]? = some l → wordOf l = "thread" ∨ wordOf l = "end"
theorem take_ok : ∀ {rs : List Str} {p : Nat} {os : List Op} {q : Nat}, takeOps rs p = .ok (os, q) → p ≤ q ∧ q ≤ p + rs.length ∧ Stop rs (q - p) ∧ os.length = q - p
  | [], p, os, q, h => by
    cases h
    exact ⟨Nat.le_refl _, Nat.le_refl _, (fun l e => by rw [Nat.sub_self] at e; cases e), (Nat.sub_self _).symm⟩
  | l :: r, p, os, q, h => by
    by_cases c : wordOf l = "thread" ∨ wordOf l = "end"
    · rw [take_stop c] at h
      cases h
      refine ⟨Nat.le_refl _, Nat.le_add_right _ _, fun l' e => ?_, (Nat.sub_self _).symm⟩
      rw [Nat.sub_self] at e
      cases e
      exact c
    · cases e : opOf l with
      | none =>
        rw [take_bad c e] at h
        cases h
      | some o =>
        rw [take_op c e] at h
        cases t : takeOps r (p + 1) with
        | error e2 =>
          rw [t] at h
          cases h
        | ok y =>
          obtain ⟨os2, q2⟩ := y
          rw [t] at h
          cases h
          obtain ⟨a, b, s, n⟩ := take_ok t
          rw [List.length_cons]
          refine ⟨by omega, by omega, fun l' e' => s l' ?_, by rw [List.length_cons]; omega⟩
          have z : q - p = (q - (p + 1)) + 1 := by omega
          rw [z] at e'
          exact e'
theorem addOp_snoc (o : Op) (t : Thr) : ∀ acc : List Thr, addOp o (acc ++ [t]) = acc ++ [(t.1, t.2 ++ [o])]
  | [] => rfl
  | [a] => rfl
  | a :: b :: r => congrArg (fun z => a :: z) (addOp_snoc o t (b :: r))
theorem read_nil (p : Nat) (acc : List Thr) : readThreads [] p acc = .ok acc := rfl
theorem read_thread {l : Str} {r : List Str} {p : Nat} {acc : List Thr} {ns : List Int} (h : wordOf l = "thread") (e : numbersOf l "thread" 1 = some ns) : readThreads (l :: r) p acc = readThreads r (p + 1) (acc ++ [(ns.headD 0, [])]) := by
  conv => lhs; unfold readThreads
  rw [if_pos h, e]
theorem read_thread_bad {l : Str} {r : List Str} {p : Nat} {acc : List Thr} (h : wordOf l = "thread") (e : numbersOf l "thread" 1 = none) : readThreads (l :: r) p acc = .error (p + 1) := by
  conv => lhs; unfold readThreads
  rw [if_pos h, e]
theorem read_bad {l : Str} {r : List Str} {p : Nat} {acc : List Thr} (h : ¬ wordOf l = "thread") (e : opOf l = none) : readThreads (l :: r) p acc = .error (p + 1) := by
  conv => lhs; unfold readThreads
  rw [if_neg h, e]
theorem read_op0 {l : Str} {r : List Str} {p : Nat} {o : Op} (h : ¬ wordOf l = "thread") (e : opOf l = some o) : readThreads (l :: r) p [] = .error (p + 1) := by
  conv => lhs; unfold readThreads
  rw [if_neg h, e]
  show (if ([] : List Thr) = [] then _ else _) = _
  rw [if_pos rfl]
theorem read_op {l : Str} {r : List Str} {p : Nat} {o : Op} {acc : List Thr} (h : ¬ wordOf l = "thread") (e : opOf l = some o) (hn : acc ≠ []) : readThreads (l :: r) p acc = readThreads r (p + 1) (addOp o acc) := by
  conv => lhs; unfold readThreads
  rw [if_neg h, e]
  show (if acc = [] then _ else _) = _
  rw [if_neg hn]
/-- a row that is no thread, where no program is open -/
theorem read_first {l : Str} {r : List Str} {p : Nat} (h : ¬ wordOf l = "thread") : readThreads (l :: r) p [] = .error (p + 1) := by
  cases e : opOf l with
  | none => exact read_bad h e
  | some o => exact read_op0 h e
/-- a program at one go -/
theorem read_take : ∀ (rs : List Str) (p : Nat) (acc : List Thr) (s : Int) (ops : List Op), readThreads rs p (acc ++ [(s, ops)]) = match takeOps rs p with
    | .error e => .error e
    | .ok (os, q) => readThreads (rs.drop (q - p)) q (acc ++ [(s, ops ++ os)])
  | [], p, acc, s, ops => by
    rw [take_nil]
    show Except.ok _ = readThreads (([] : List Str).drop (p - p)) p _
    rw [List.append_nil, Nat.sub_self]
    rfl
  | l :: r, p, acc, s, ops => by
    by_cases c : wordOf l = "thread" ∨ wordOf l = "end"
    · rw [take_stop c]
      show _ = readThreads ((l :: r).drop (p - p)) p _
      rw [List.append_nil, Nat.sub_self, List.drop_zero]
    · have c1 : ¬ wordOf l = "thread" := fun e => c (.inl e)
      cases e : opOf l with
      | none => rw [take_bad c e, read_bad c1 e]
      | some o =>
        rw [take_op c e, read_op c1 e (by simp), addOp_snoc, read_take r (p + 1) acc s (ops ++ [o])]
        cases t : takeOps r (p + 1) with
        | error e2 => rfl
        | ok y =>
          obtain ⟨os, q⟩ := y
          obtain ⟨a, b, _⟩ := take_ok t
          show readThreads (r.drop (q - (p + 1))) q (acc ++ [(s, ops ++ [o] ++ os)]) = readThreads ((l :: r).drop (q - p)) q (acc ++ [(s, ops ++ o :: os)])
          have z : q - p = (q - (p + 1)) + 1 := by omega
          rw [z, List.drop_succ_cons, List.append_assoc]
          rfl
/-- how long what is read can be -/
def ThB (B : Nat) (t : Thr) : Prop := t.2.length ≤ B ∧ ∀ o ∈ t.2, o.2.length ≤ 2
theorem op_two {l : Str} {o : Op} (h : opOf l = some o) : o.2.length ≤ 2 := by
  unfold opOf at h
  split at h
  · rename_i q
    obtain ⟨ns, e, ez⟩ := Option.map_eq_some_iff.mp h
    cases hb : opBounds (wordOf l) with
    | none =>
      unfold isOpB at q
      rw [hb] at q
      cases q
    | some bs =>
      unfold isOpB at q
      rw [hb, Bool.and_eq_true, decide_eq_true_eq] at q
      have q1 := q.1
      have e2 := congrArg List.length (allSome_map e)
      rw [List.length_map] at e2
      have hbs : bs.length ≤ 2 := by
        unfold opBounds at hb
        repeat' split at hb
        all_goals first
          | (cases hb; decide)
          | cases hb
      rw [← ez]
      show ns.length ≤ 2
      omega
  · cases h
theorem addOp_b {o : Op} {B : Nat} (ho : o.2.length ≤ 2) : ∀ {acc : List Thr}, (∀ t ∈ acc, ThB B t) → ∀ t ∈ addOp o acc, ThB (B + 1) t
  | [], _, t, h => by cases h
  | [a], ha, t, h => by
    rw [List.mem_singleton.mp h]
    obtain ⟨x, y⟩ := ha a List.mem_cons_self
    refine ⟨by show (a.2 ++ [o]).length ≤ _; rw [List.length_append]; show _ + 1 ≤ _; omega, fun q hq => ?_⟩
    rcases List.mem_append.mp hq with z | z
    · exact y q z
    · rw [List.mem_singleton.mp z]
      exact ho
  | a :: b :: r, ha, t, h => by
    rcases List.mem_cons.mp (show t ∈ a :: addOp o (b :: r) from h) with e | e
    · rw [e]
      obtain ⟨x, y⟩ := ha a List.mem_cons_self
      exact ⟨by omega, y⟩
    · exact addOp_b ho (fun t ht => ha t (List.mem_cons_of_mem _ ht)) t e
theorem addOp_len (o : Op) : ∀ acc : List Thr, (addOp o acc).length = acc.length
  | [] => rfl
  | [a] => rfl
  | a :: b :: r => congrArg (· + 1) (addOp_len o (b :: r))
theorem read_b : ∀ {rs : List Str} {p : Nat} {acc ths : List Thr} {B : Nat}, readThreads rs p acc = .ok ths → (∀ t ∈ acc, ThB B t) → ths.length ≤ acc.length + rs.length ∧ ∀ t ∈ ths, ThB (B + rs.length) t
  | [], p, acc, ths, B, h, ha => by
    cases h
    exact ⟨Nat.le_refl _, ha⟩
  | l :: r, p, acc, ths, B, h, ha => by
    by_cases c : wordOf l = "thread"
    · cases e : numbersOf l "thread" 1 with
      | none =>
        rw [read_thread_bad c e] at h
        cases h
      | some ns =>
        rw [read_thread c e] at h
        obtain ⟨x, y⟩ := read_b (B := B) h fun t ht => by
          rcases List.mem_append.mp ht with z | z
          · exact ha t z
          · rw [List.mem_singleton.mp z]
            exact ⟨Nat.zero_le _, fun o ho => nomatch ho⟩
        rw [List.length_append] at x
        rw [List.length_cons]
        refine ⟨by have z : [((ns.headD 0 : Int), ([] : List Op))].length = 1 := rfl; omega, fun t ht => ?_⟩
        obtain ⟨u, v⟩ := y t ht
        exact ⟨by omega, v⟩
    · cases e : opOf l with
      | none =>
        rw [read_bad c e] at h
        cases h
      | some o =>
        by_cases n : acc = []
        · rw [n, read_op0 c e] at h
          cases h
        · rw [read_op c e n] at h
          obtain ⟨x, y⟩ := read_b (B := B + 1) h (addOp_b (op_two e) ha)
          rw [addOp_len] at x
          rw [List.length_cons]
          refine ⟨by omega, fun t ht => ?_⟩
          obtain ⟨u, v⟩ := y t ht
          exact ⟨by omega, v⟩
end Hf
end
section
set_option maxHeartbeats 4000000
/-! Sz: a machine as a text's rows; how long they are. -/
namespace Hf
open PySem PySem.Spec PyProof.Rows L2
abbrev numS (i : Int) : Str := Str.ofString (toString i)
def opRow (o : Op) : Str := Txt.join sp (o.1 :: o.2.map numS)
def thRows (t : Thr) : List Str := ("thread " ++ numS t.1) :: t.2.map opRow
def headRows (s : Sett) : List Str := ["sockets " ++ numS s.sockets, Txt.join sp ("classes" :: s.classes.map numS), "pages " ++ numS s.pages, "batch " ++ numS s.batch, "spare " ++ numS s.spare, "slots " ++ numS s.slots, "stops " ++ numS s.stops]
def faultRow (s : Sett) : List Str := match s.fault with
  | none => []
  | some x => ["fault " ++ x]
def rowsOf (s : Sett) : List Str := headRows s ++ faultRow s ++ s.threads.flatMap thRows
/-- a small number -/
def SmI (i : Int) : Prop := 0 ≤ i ∧ i ≤ 99
structure SmO (o : Op) : Prop where
  w : o.1.length ≤ 5
  n : o.2.length ≤ 2
  i : ∀ i ∈ o.2, SmI i
structure SmT (t : Thr) : Prop where
  s : SmI t.1
  n : t.2.length ≤ 5
  o : ∀ o ∈ t.2, SmO o
structure Small (s : Sett) : Prop where
  so : SmI s.sockets
  cn : s.classes.length ≤ 3
  ci : ∀ i ∈ s.classes, SmI i
  tn : s.threads.length ≤ 4
  ti : ∀ t ∈ s.threads, SmT t
  pa : SmI s.pages
  ba : SmI s.batch
  sa : SmI s.spare
  sl : SmI s.slots
  st : SmI s.stops
  fa : s.fault = none ∨ ∃ x, s.fault = some x ∧ x ∈ faults
theorem SmI.log {i : Int} (h : SmI i) : i.natAbs.log2 < 1920 := by
  have z : i.natAbs < 100 := by
    have := h.1
    have := h.2
    omega
  have y : ∀ n, n < 100 → n.log2 < 1920 := by decide +kernel
  exact y _ z
theorem SmI.len {i : Int} (h : SmI i) : (numS i).length ≤ 2 := by
  have y : ∀ n, n < 100 → (numS ((n : Nat) : Int)).length ≤ 2 := by decide +kernel
  have e : i = ((i.toNat : Nat) : Int) := (Int.toNat_of_nonneg h.1).symm
  have z : i.toNat < 100 := by
    have := h.1
    have := h.2
    omega
  rw [e]
  exact y _ z
theorem app_len (a b : Str) : (a ++ b).length = a.length + b.length := by
  have e := congrArg List.length (TL.tl_append a b)
  rw [List.length_append] at e
  have z : ∀ x : Str, (TL.tl x).length = x.length := fun x => Array.length_toList
  rw [z, z, z] at e
  exact e
theorem emp_app (a : Str) : Str.empty ++ a = a := TL.ext_tl (by rw [TL.tl_append] <;> rfl)
theorem joinL_len (S : List Nat) : ∀ l : List (List Nat), (TL.joinL S l).length ≤ (l.map List.length).sum + l.length * S.length
  | [] => Nat.zero_le _
  | [p] => by
    show p.length ≤ (p.length + 0) + (0 + 1) * S.length
    omega
  | p :: q :: r => by
    have ih := joinL_len S (q :: r)
    show (p ++ (S ++ TL.joinL S (q :: r))).length ≤ _
    rw [List.length_append, List.length_append, List.map_cons, List.sum_cons, List.length_cons, Nat.succ_mul]
    omega
theorem join_S' (a : Str) (ys : List Str) : Txt.join a ys = SX.S (TL.joinL a.cps.toList (ys.map fun y => y.cps.toList)) := by
  have e := SX.join_S a.cps.toList (ys.map fun y => y.cps.toList)
  rw [SX.S_tl, List.map_map] at e
  have z : ys.map (SX.S ∘ fun y => y.cps.toList) = ys := by
    conv => rhs; rw [← List.map_id ys]
    exact List.map_congr_left fun y _ => SX.S_tl y
  rw [z] at e
  exact e
theorem join_len (a : Str) (ys : List Str) : (Txt.join a ys).length ≤ (ys.map (·.length)).sum + ys.length * a.length := by
  rw [join_S', SX.S_len]
  have z := joinL_len a.cps.toList (ys.map fun y => y.cps.toList)
  rw [List.map_map, List.length_map] at z
  have e : (ys.map (List.length ∘ fun y => y.cps.toList)) = ys.map (·.length) := List.map_congr_left fun y _ => Array.length_toList
  rw [e] at z
  have e2 : a.cps.toList.length = a.length := Array.length_toList
  rw [e2] at z
  exact z
theorem sum_le {l : List Str} {k : Nat} (h : ∀ x ∈ l, x.length ≤ k) : (l.map (·.length)).sum ≤ l.length * k := by
  induction l with
  | nil => exact Nat.zero_le _
  | cons x r ih =>
    rw [List.map_cons, List.sum_cons, List.length_cons, Nat.succ_mul]
    have h1 := h x List.mem_cons_self
    have h2 := ih fun y hy => h y (List.mem_cons_of_mem _ hy)
    omega
theorem nums_le {ns : List Int} (h : ∀ i ∈ ns, SmI i) : ∀ x ∈ ns.map numS, x.length ≤ 7 := fun x hx => by
  obtain ⟨i, hi, rfl⟩ := List.mem_map.mp hx
  have := (h i hi).len
  omega
theorem opRow_len {o : Op} (h : SmO o) : (opRow o).length ≤ 40 := by
  have z := join_len sp (o.1 :: o.2.map numS)
  have y := sum_le (l := o.2.map numS) (k := 7) (nums_le h.i)
  rw [List.map_cons, List.sum_cons, List.length_cons, List.length_map] at z
  rw [List.length_map] at y
  have e : sp.length = 1 := by decide +kernel
  rw [e] at z
  have := h.w
  have := h.n
  unfold opRow
  omega
theorem cls_len {s : Sett} (h : Small s) : (Txt.join sp ("classes" :: s.classes.map numS)).length ≤ 40 := by
  have z := join_len sp ("classes" :: s.classes.map numS)
  have y := sum_le (l := s.classes.map numS) (k := 7) (nums_le h.ci)
  rw [List.map_cons, List.sum_cons, List.length_cons, List.length_map] at z
  rw [List.length_map] at y
  have e : sp.length = 1 := by decide +kernel
  have e2 : ("classes" : Str).length = 7 := by decide +kernel
  rw [e, e2] at z
  have := h.cn
  omega
theorem pre_len {a : Str} {i : Int} (ha : a.length ≤ 9) (h : SmI i) : (a ++ numS i).length ≤ 40 := by
  rw [app_len]
  have := h.len
  omega
theorem thRows_len {t : Thr} (h : SmT t) : ∀ x ∈ thRows t, x.length ≤ 40 := fun x hx => by
  rcases List.mem_cons.mp hx with e | e
  · rw [e]
    exact pre_len (by decide +kernel) h.s
  · obtain ⟨o, ho, rfl⟩ := List.mem_map.mp e
    exact opRow_len (h.o o ho)
theorem headRows_len {s : Sett} (h : Small s) : ∀ x ∈ headRows s, x.length ≤ 40 := fun x hx => by
  unfold headRows at hx
  simp only [List.mem_cons, List.not_mem_nil, or_false] at hx
  rcases hx with e | e | e | e | e | e | e <;> rw [e]
  · exact pre_len (by decide +kernel) h.so
  · exact cls_len h
  · exact pre_len (by decide +kernel) h.pa
  · exact pre_len (by decide +kernel) h.ba
  · exact pre_len (by decide +kernel) h.sa
  · exact pre_len (by decide +kernel) h.sl
  · exact pre_len (by decide +kernel) h.st
theorem faults_len {x : Str} (h : x ∈ faults) : x.length ≤ 7 := by
  have z : ∀ x ∈ faults, x.length ≤ 7 := by decide +kernel
  exact z x h
theorem faultRow_len {s : Sett} (h : Small s) : ∀ x ∈ faultRow s, x.length ≤ 40 := fun x hx => by
  unfold faultRow at hx
  rcases h.fa with e | ⟨y, e, hy⟩
  · rw [e] at hx
    cases hx
  · rw [e] at hx
    rw [List.mem_singleton.mp hx, app_len]
    have := faults_len hy
    have e2 : ("fault " : Str).length = 6 := by decide +kernel
    omega
theorem rowsOf_len {s : Sett} (h : Small s) : ∀ x ∈ rowsOf s, x.length ≤ 40 := fun x hx => by
  unfold rowsOf at hx
  rw [List.mem_append, List.mem_append] at hx
  rcases hx with (e | e) | e
  · exact headRows_len h x e
  · exact faultRow_len h x e
  · obtain ⟨t, ht, hx⟩ := List.mem_flatMap.mp e
    exact thRows_len (h.ti t ht) x hx
theorem flat_len {α β : Type} {f : α → List β} {k : Nat} : ∀ {l : List α}, (∀ x ∈ l, (f x).length ≤ k) → (l.flatMap f).length ≤ l.length * k
  | [], _ => Nat.zero_le _
  | x :: r, h => by
    rw [List.flatMap_cons, List.length_append, List.length_cons, Nat.succ_mul]
    have h1 := h x List.mem_cons_self
    have h2 := flat_len (l := r) fun y hy => h y (List.mem_cons_of_mem _ hy)
    omega
theorem thRows_num {t : Thr} (h : SmT t) : (thRows t).length ≤ 6 := by
  unfold thRows
  rw [List.length_cons, List.length_map]
  have := h.n
  omega
theorem faultRow_num (s : Sett) : (faultRow s).length ≤ 1 := by
  unfold faultRow
  cases s.fault with
  | none => exact Nat.zero_le _
  | some x => exact Nat.le_refl _
theorem rowsOf_num {s : Sett} (h : Small s) : (rowsOf s).length ≤ 32 := by
  unfold rowsOf
  rw [List.length_append, List.length_append]
  have a := flat_len (f := thRows) (k := 6) (l := s.threads) fun t ht => thRows_num (h.ti t ht)
  have b := faultRow_num s
  have c : (headRows s).length = 7 := rfl
  have := h.tn
  omega
end Hf
end
section
set_option maxHeartbeats 4000000
/-! D1: the defs of programs.py. -/
namespace Hf
open PySem PySem.Spec PyProof.Rows L2
section
variable {X : Cx} {x : Str} {pos : Pos}
theorem pe_ty {t : String} (hg : Gl X x) (hm : X.mg x = none) (hv : bootBuiltins x = some (.type t)) (hn : x ≠ "__name__" := by decide) (hd : (x == ("__debug__" : Str)) = false := by decide) : PE X (.Name x pos) (tC (.ty t)) := pe_bltn hg hm hv rfl hn hd
theorem pe_gl {a : Addr} (hg : Gl X x) (hm : X.mg x = some (.ref a)) (hd : (x == ("__debug__" : Str)) = false := by decide) : PE X (.Name x pos) (tC (.ref a)) := pe_glob hg hm rfl hd
theorem room_u {k : Nat} {A : Around} (hr : Room k A) {n : Nat} (h : n ≤ 200 := by decide) : A.units + n < cLine := by
  have := hr.un
  omega
/-- a tuple == () -/
def rEq0 : R2 := fun x y H Q => ∃ p q xs, x = .ref p ∧ y = .ref q ∧ H p = some (.tup xs) ∧ H q = some (.tup []) ∧ Q (.bl xs.isEmpty) H
theorem op_eq0 (hu : X.A.units + 64 < cLine) : OpR X (compareOp .Eq) rEq0 := by
  intro pins s σ H x y v u Q I rx ry h
  obtain ⟨p, q, xs, rfl, rfl, hp, hq, h⟩ := h
  cases rx
  cases ry
  obtain ⟨its, r1, t1, _⟩ := I.tuple (SqT.of hp)
  obtain ⟨it2, r2, t2, _⟩ := I.tuple (SqT.of hq)
  cases r2
  refine SeqAt.eq_tupleAt (e := fun _ => true) (show s.heap.IsTuple p its.toArray from t1) (show s.heap.IsTuple q ([] : List Value).toArray from t2) (by omega) (fun j h1 h2 => absurd h2 (Nat.not_lt_zero _)) ⟨.bl xs.isEmpty, H, I, ?_, h⟩
  cases r1 with
  | nil => rfl
  | cons a b => rfl
theorem itT {c A B : Prop} [Decidable c] (h : c) (a : A) : if c then A else B := by
  rw [if_pos h]
  exact a
theorem itF {c A B : Prop} [Decidable c] (h : ¬ c) (b : B) : if c then A else B := by
  rw [if_neg h]
  exact b
theorem walk_zipT {K : Fg} {a b : Addr} {xs ys : List V} {n : Nat} (hn : n = min xs.length ys.length) : Walk (RZ.ItzT K a b) n (fun H => SqT K H a xs ∧ SqT K H b ys) (YPair (fun i => xs[i]?) (fun i => ys[i]?)) := by
  subst hn
  refine ⟨fun i _ hi q => ?_, fun _ q => ⟨xs, ys, q.1, q.2, by omega⟩, fun i H v H' _ q y => ?_⟩
  · have hx : i < xs.length := by omega
    have hy : i < ys.length := by omega
    exact ⟨xs, ys, xs[i], ys[i], q.1, q.2, List.getElem?_eq_getElem hx, List.getElem?_eq_getElem hy⟩
  · obtain ⟨t, x, z, e1, e2, e3, e4, e5⟩ := y
    exact ⟨t, x, z, e1, e2, e3, e4 xs q.1, e5 ys q.2⟩
theorem SqT.ext {K : Fg} {H H' : Hp} {a : Addr} {xs : List V} (x : Ext H H') (h : SqT K H a xs) : SqT K H' a xs := by
  rcases h with (h | ⟨o, h⟩) | h
  · exact .inl (.inl (x _ _ h))
  · exact .inl (.inr ⟨o, x _ _ h⟩)
  · exact .inr h
theorem SqL.ext {K : Fg} {H H' : Hp} {a : Addr} {xs : List V} (x : Ext H H') (h : SqL K H a xs) : SqL K H' a xs := by
  rcases h with (h | ⟨o, h⟩) | h
  · exact .inl (.inl (x _ _ h))
  · exact .inl (.inr ⟨o, x _ _ h⟩)
  · exact .inr h
theorem cut1 (x : V) (xs : List V) : cutV (x :: xs) (some 1) none = xs := by
  have e : HT.sIx (x :: xs).length 0 (some 1) = 1 := by
    show (if (1 : Int) < 0 then ((1 : Int) + ((xs.length + 1 : Nat) : Int)).toNat else min (1 : Int).toNat (xs.length + 1)) = 1
    rw [if_neg (by decide)]
    show min 1 (xs.length + 1) = 1
    omega
  unfold cutV
  rw [e]
  show xs.take (xs.length + 1 - 1) = xs
  rw [Nat.add_sub_cancel, List.take_length]
theorem six1 (x : V) (xs : List V) : ¬ HT.sIx (x :: xs).length 0 (some 1) = 0 := by
  show ¬ (if (1 : Int) < 0 then ((1 : Int) + ((xs.length + 1 : Nat) : Int)).toNat else min (1 : Int).toNat (xs.length + 1)) = 0
  rw [if_neg (by decide)]
  show ¬ min 1 (xs.length + 1) = 0
  omega
/-- str(x), x a text or an int -/
def SV (x : V) (y : Str) : Prop := x = .str y ∨ ∃ i : Int, x = .int i ∧ i.natAbs.log2 < 1920 ∧ y = toString i
theorem call_strA : CallR X (.type "str") (fun xs H Q => ∃ x y, xs = [x] ∧ SV x y ∧ Q (.str y) H) := by
  intro pins s σ H xs us Q I r h
  obtain ⟨x, y, rfl, sv, q⟩ := h
  rcases sv with rfl | ⟨i, rfl, hz, rfl⟩
  · exact SkE.call_str_str pins s σ H _ us Q I r ⟨y, rfl, q⟩
  · exact call_str_int pins s σ H _ us Q I r ⟨i, rfl, hz, q⟩
end
section
variable {P : Program} {w : World} {K : Fg} {mg : Str → Option Value} {base : Heap}
theorem fr {K : Fg} {mg : Str → Option Value} {w : World} (T : Txt K mg w) (x : Str) (h : x ∈ frees := by decide +kernel) : mg x = none := T.free x h
theorem cn {K : Fg} {mg : Str → Option Value} {w : World} (T : Txt K mg w) (x : Str) (i : Int) (h : (x, i) ∈ intsM := by decide +kernel) : ∃ u, mg x = some u ∧ RelV (.int i) u := T.int (x, i) h
theorem tyNum {K : Fg} {H : Hp} : ∀ o : Option Int, ∃ t, TyX K H (numV o) t ∧ PySem.W.kitOne K t (.type "int") = some o.isSome ∧ (o.isSome = true → PySem.W.kitOne K t (.type "bool") = some false)
  | none => ⟨_, .base .non, kit_ty (r := false) (by decide +kernel), fun h => by cases h⟩
  | some i => ⟨_, .base (.int i), kit_ty (r := true) (by decide +kernel), fun _ => kit_ty (by decide +kernel)⟩
/-! ### is_integer -/
def spIsInt : Sp := fun vs H Q _ => ∃ o, vs = [numV o] ∧ Q (.bl (Option.isSome o)) H
theorem scIsInt : FnScope ["value"] ["value"] (defScope sIsInt) := ⟨rfl, rfl, rfl, by decide +kernel, rfl, by decide +kernel, by decide +kernel⟩
theorem c_isInt (T : Txt K mg w) : Cal0 P w K mg base 1 "is_integer" spIsInt := by
  refine cal_of (i := 2) T rfl (by decide +kernel) scIsInt (fun _ _ _ _ _ _ us hl => match us, hl with | [_], _ => rfl) (fun vs H Q E h => ?_) (fun f cdv A outer s H vs Q E hr h => ?_)
  · obtain ⟨o, rfl, _⟩ := h
    rfl
  · obtain ⟨o, rfl, k⟩ := h
    refine ⟨_, (pss_one (ps_ret (pe_and (pe_callB call_isi (by rfl) (fr T "isinstance") boot_isinstance (pa_cons (pv 0) (pa_cons (pe_ty (by rfl) (fr T "int") boot_int) pa_nil))) (pe_one (pe_not (pe_callB call_isi (by rfl) (fr T "isinstance") boot_isinstance (pa_cons (pv 0) (pa_cons (pe_ty (by rfl) (fr T "bool") boot_bool) pa_nil)))))))), ?_⟩
    obtain ⟨t, ty, e1, e2⟩ := tyNum (K := K) (H := H) o
    refine ⟨_, rfl, _, _, t, _, _, rfl, .ty "int", ty, e1, _, rfl, ite2 (fun q => ?_) (fun q => ?_)⟩
    · refine ⟨_, rfl, _, _, t, _, _, rfl, .ty "bool", ty, e2 q, _, rfl, ?_⟩
      rw [q] at k
      exact k
    · rw [Bool.eq_false_iff.mpr q] at k
      exact k
/-! ### is_between -/
def spBetween : Sp := fun vs H Q _ => ∃ o a b, vs = [numV o, .int a, .int b] ∧ Q (.bl (inB o a b)) H
theorem scBetween : FnScope ["value", "least", "most"] ["value", "least", "most"] (defScope sBetween) := ⟨rfl, rfl, rfl, by decide +kernel, rfl, by decide +kernel, by decide +kernel⟩
theorem c_between (T : Txt K mg w) : Cal0 P w K mg base 2 "is_between" spBetween := by
  refine cal_of (i := 3) T rfl (by decide +kernel) scBetween (fun _ _ _ _ _ _ us hl => match us, hl with | [_, _, _], _ => rfl) (fun vs H Q E h => ?_) (fun f cdv A outer s H vs Q E hr h => ?_)
  · obtain ⟨o, a, b, rfl, _⟩ := h
    rfl
  · obtain ⟨o, a, b, rfl, k⟩ := h
    refine ⟨_, (pss_one (ps_ret (pe_and (C8.pe_c (c_isInt T) hr (by decide) (by rfl) (pa_cons (pv 0) pa_nil)) (pe_one (pe_chain op_le op_le (pv 1) (pv 0) (pv 2)))))), ?_⟩
    refine ⟨_, rfl, o, rfl, _, rfl, ite2 (fun q => ?_) (fun q => ?_)⟩
    · obtain ⟨i, rfl⟩ := Option.isSome_iff_exists.mp q
      refine ⟨_, rfl, _, rfl, _, _, rfl, rfl, _, rfl, ite2 (fun q2 => ?_) (fun q2 => ?_)⟩
      · refine ⟨_, rfl, _, _, rfl, rfl, ?_⟩
        have e : inB (some i) a b = decide (i ≤ b) := by
          show (decide (a ≤ i) && decide (i ≤ b)) = decide (i ≤ b)
          rw [q2, Bool.true_and]
        rw [e] at k
        exact k
      · have e : inB (some i) a b = false := by
          show (decide (a ≤ i) && decide (i ≤ b)) = false
          rw [Bool.eq_false_iff.mpr q2, Bool.false_and]
        rw [e] at k
        exact k
    · cases o with
      | none => exact k
      | some i => exact absurd rfl q
/-! ### is_row -/
def spIsRow : Sp := fun vs H Q _ => ∃ p, vs = [.ref p] ∧ ((∃ xs, H p = some (.lst xs)) ∨ ∃ xs, H p = some (.tup xs)) ∧ ∀ H', Ext H H' → Q (.bl true) H'
theorem scIsRow : FnScope ["value"] ["value"] (defScope sIsRow) := ⟨rfl, rfl, rfl, by decide +kernel, rfl, by decide +kernel, by decide +kernel⟩
theorem c_isRow (T : Txt K mg w) : Cal0 P w K mg base 1 "is_row" spIsRow := by
  refine cal_of (i := 4) T rfl (by decide +kernel) scIsRow (fun _ _ _ _ _ _ us hl => match us, hl with | [_], _ => rfl) (fun vs H Q E h => ?_) (fun f cdv A outer s H vs Q E hr h => ?_)
  · obtain ⟨p, rfl, _⟩ := h
    rfl
  · obtain ⟨p, rfl, hp, k⟩ := h
    refine ⟨_, (pss_one (ps_ret (pe_callB call_isiT (by rfl) (fr T "isinstance") boot_isinstance (pa_cons (pv 0) (pa_cons (pe_tup (pa_cons (pe_ty (by rfl) (fr T "list") boot_list) (pa_cons (pe_ty (by rfl) (fr T "tuple") boot_tuple) pa_nil))) pa_nil))))), ?_⟩
    refine ⟨_, rfl, by rw [sizeLine_eq]; decide, fun q hq => ?_⟩
    have ty : ∃ t, TyX K (upd H q (.tup [.ty "list", .ty "tuple"])) (.ref p) t ∧ PySem.W.kitAny K t [.type "list", .type "tuple"] = some true := by
      rcases hp with ⟨xs, e⟩ | ⟨xs, e⟩
      · have e2 : (upd H q (.tup [.ty "list", .ty "tuple"])) p = some (.lst xs) := (upd_ne (ne_of_none e hq)).trans e
        exact ⟨_, .base (.lst e2), kitAny_cons (b := true) (kit_ty (by decide +kernel)) (fun z => by cases z) fun _ => rfl⟩
      · have e2 : (upd H q (.tup [.ty "list", .ty "tuple"])) p = some (.tup xs) := (upd_ne (ne_of_none e hq)).trans e
        exact ⟨_, .base (.tup e2), kitAny_cons (b := false) (kit_ty (by decide +kernel)) (fun _ => kitAny_cons (b := true) (kit_ty (by decide +kernel)) (fun z => by cases z) fun _ => rfl) fun z => by cases z⟩
    obtain ⟨t, ty, e⟩ := ty
    exact ⟨_, q, _, t, _, _, rfl, upd_same, .cons (.ty "list") (.cons (.ty "tuple") .nil), ty, e, k _ (Ext.new Ext.rfl' hq)⟩
/-! ### is_operation -/
def spIsOp : Sp := fun vs H Q _ => ∃ p wd ns, vs = [.ref p] ∧ H p = some (.tup (.str wd :: ns.map numV)) ∧ ns.length ≤ 100000 ∧ ∀ H', Ext H H' → Q (.bl (isOpB wd ns)) H'
theorem scIsOp : FnScope ["value", "bounds", "number", "least", "most"] ["value"] (defScope sIsOp) := ⟨rfl, rfl, rfl, by decide +kernel, rfl, by decide +kernel, by decide +kernel⟩
theorem c_isOp (T : Txt K mg w) : Cal0 P w K mg base 3 "is_operation" spIsOp := by
  refine cal_of (i := 5) T rfl (by decide +kernel) scIsOp (fun _ _ _ _ _ _ us hl => match us, hl with | [_], _ => rfl) (fun vs H Q E h => ?_) (fun f cdv A outer s H vs Q E hr h => ?_)
  · obtain ⟨p, wd, ns, rfl, _⟩ := h
    rfl
  · obtain ⟨p, wd, ns, rfl, hp, hl, k⟩ := h
    obtain ⟨es, n, DK⟩ := T.bnd
    refine ⟨_, (pss_cons (ps_if (PW.pt (pw_or (pt_not (pt_val (pe_callB call_isi (by rfl) (fr T "isinstance") boot_isinstance (pa_cons (pv 0) (pa_cons (pe_ty (by rfl) (fr T "tuple") boot_tuple) pa_nil))))) (pw_or (pt_cmpR (op_eq0 (room_u hr)) (pv 0) (pe_tup pa_nil) (nomark _)) (pw_or1 (pt_not (pt_val (pe_callB call_isi (by rfl) (fr T "isinstance") boot_isinstance (pa_cons (pe_ix ix_tup (pv 0) pe_int (fun _ _ => rfl)) (pa_cons (pe_ty (by rfl) (fr T "str") boot_str) pa_nil))))))))) (pss_one (ps_ret pe_bl)) pss_nil)
      (pss_cons (ps_set (i := 1) scIsOp.nd (by rfl) (Or.inl (by rfl)) (pe_kget2 DK (pe_gl (by rfl) (T.glo "BOUNDS" (by decide +kernel))) (pe_ix ix_tup (pv 0) pe_int (fun _ _ => rfl)) pe_non ⟨by rfl, by rfl, by rfl, by rfl⟩))
      (pss_cons (ps_if (PW.pt (pw_or (pt_cmp (pc_isN (pv 1))) (pw_or1 (pt_cmpR op_ne (pe_callB call_len_seq (by rfl) (fr T "len") boot_len (pa_cons (pv 0) pa_nil)) (pe_op op_add (pe_callB call_len_seq (by rfl) (fr T "len") boot_len (pa_cons (pv 1) pa_nil)) pe_int) (nomark _))))) (pss_one (ps_ret pe_bl)) pss_nil)
      (pss_one (ps_ret (pe_callB (cr_all (by rfl)) (by rfl) (fr T "all") boot_all (pa_cons (pe_lc (own := [("number", 2), ("least", 3), ("most", 4)]) (g := (gTup K 2 (gCons (gName 2) (gCons (gTup K 2 (gCons (gName 3) (gCons (gName 4) gNil))) gNil))))  (by rfl) scIsOp.nd (RZ.pi_zipA (by rfl) (fr T "zip") (pa_cons (pe_slice sl_tupA (pv 0) (po_some pe_int) po_none) (pa_cons (pv 1) pa_nil))) (blkOk_by (N := ["value", "bounds", "number", "least", "most"]) (sc := defScope sIsOp) (by decide +kernel)) (fun _ _ _ _ _ => by exact (pg_tup (by rfl) (pgs_cons (pg_name (i := 2) scIsOp.nd (by rfl) (Or.inl (by rfl))) (pgs_cons (pg_tup (by rfl) (pgs_cons (pg_name (i := 3) scIsOp.nd (by rfl) (Or.inl (by rfl))) (pgs_cons (pg_name (i := 4) scIsOp.nd (by rfl) (Or.inl (by rfl))) pgs_nil))) pgs_nil)))) (fun _ _ _ _ _ => by exact pts_nil) (fun _ _ _ _ _ => by exact (C8.pe_c (c_between T) hr (by decide) (by rfl) (pa_cons (pv 2) (pa_cons (pv 3) (pa_cons (pv 4) pa_nil)))))) pa_nil))))))), ?_⟩
    refine ⟨_, rfl, _, _, _, _, _, rfl, .ty "tuple", .base (.tup hp), kit_ty (r := true) (by decide +kernel), _, rfl, itF (by decide) ?_⟩
    refine ⟨_, rfl, by rw [sizeLine_eq]; decide, fun q hq => ?_⟩
    have hp1 : (upd H q (.tup [])) p = some (.tup (.str wd :: ns.map numV)) := (upd_ne (ne_of_none hp hq)).trans hp
    have x1 : Ext H (upd H q (.tup [])) := Ext.new Ext.rfl' hq
    refine ⟨p, q, _, rfl, rfl, hp1, upd_same, _, rfl, itF (fun z => by cases z) ?_⟩
    generalize upd H q (.tup []) = H1 at hp1 x1 ⊢
    refine ⟨_, rfl, p, _, 0, _, rfl, rfl, SqT.of hp1, atI_nat (j := 0) rfl, _, _, _, _, _, rfl, .ty "str", .base (.str wd), kit_ty (r := true) (by decide +kernel), _, rfl, itF (by decide) ?_⟩
    refine ⟨rfl, _, rfl, p, _, 0, _, rfl, rfl, SqT.of hp1, atI_nat (j := 0) rfl, ?_⟩
    have hb := T.bnds wd
    cases e : opBounds wd with
    | none =>
      rw [e] at hb
      refine ⟨wd, none, rfl, hb, ?_⟩
      refine ⟨_, rfl, _, rfl, itT (by decide) (itT rfl ?_)⟩
      have z : isOpB wd ns = false := by
        unfold isOpB
        rw [e]
      rw [z] at k
      exact k _ x1
    | some bs =>
      rw [e] at hb
      obtain ⟨r, hk, ps, hS, hpl, hpb⟩ := hb
      refine ⟨wd, some (.ref r), rfl, hk, .ref r, rfl, ?_⟩
      refine ⟨_, rfl, _, rfl, itF (by simp) ?_⟩
      refine ⟨_, rfl, p, _, rfl, .inr (SqT.of hp1), _, rfl, r, _, rfl, .inr (hS H1), _, _, rfl, rfl, rfl, _, rfl, ?_⟩
      have ez : isOpB wd ns = (decide (ns.length = bs.length) && (ns.zip bs).all fun p => inB p.1 p.2.1 p.2.2) := by
        unfold isOpB
        rw [e]
      rw [ez] at k
      have el : ((V.str wd :: ns.map numV).length : Nat) = ns.length + 1 := by rw [List.length_cons, List.length_map]
      refine ite2 (fun q => ?_) (fun q => ?_)
      · have z : decide (ns.length = bs.length) = false := by
          refine decide_eq_false fun w => ?_
          rw [el, List.length_map, hpl, w] at q
          exact absurd q (by simp)
        rw [z, Bool.false_and] at k
        exact k _ x1
      · have z : ns.length = bs.length := by
          by_cases w : ns.length = bs.length
          · exact w
          · refine absurd ?_ q
            rw [el, List.length_map, hpl, Bool.not_eq_true', decide_eq_false_iff_not]
            intro y
            injection y with y
            omega
        rw [decide_eq_true z, Bool.true_and] at k
        refine ⟨_, rfl, _, rfl, p, _, rfl, SqT.of hp1, fun y => absurd y.1 (six1 _ _), fun _ q hq => ?_⟩
        rw [cut1]
        have x2 : Ext H (upd H1 q (.tup (ns.map numV))) := Ext.new x1 hq
        have hq2 : (upd H1 q (.tup (ns.map numV))) q = some (.tup (ns.map numV)) := upd_same
        generalize upd H1 q (.tup (ns.map numV)) = H2 at hq2 x2 ⊢
        refine ⟨_, rfl, q, r, _, _, rfl, .inr ⟨SqT.of hq2, hS H2, fun D hD => ?_⟩⟩
        refine lc_ext (walk_zipT (n := ns.length) (by rw [List.length_map, List.length_map, hpl, z, Nat.min_self])) (fun i _ y => ∃ o b, ns[i]? = some o ∧ bs[i]? = some b ∧ y = .bl (inB o b.1 b.2)) (fun _ _ _ _ _ h => h) hD hl (fun H' x => ⟨(SqT.of hq2).ext x, hS H'⟩) ?_ ?_
        · rintro i x H3 H4 C hi x3 ⟨t, a, b, rfl, ht, rfl, ea, eb⟩ hC
          have ea : (ns.map numV)[i]? = some a := ea
          have eb : (ps.map V.ref)[i]? = some b := eb
          rw [List.getElem?_map] at ea eb
          have eo : ns[i]? = some (ns[i]'hi) := List.getElem?_eq_getElem hi
          have hpi : i < ps.length := by omega
          have ep : ps[i]? = some (ps[i]'hpi) := List.getElem?_eq_getElem hpi
          have hbi : i < bs.length := by omega
          have ebs : bs[i]? = some (bs[i]'hbi) := List.getElem?_eq_getElem hbi
          rw [eo] at ea
          rw [ep] at eb
          cases ea
          cases eb
          refine ⟨t, _, rfl, SqT.of upd_same, rfl, _, _, rfl, _, _, rfl, _, _, rfl, hpb i _ _ ep ebs _, rfl, _, _, rfl, _, _, rfl, ⟨rfl, rfl, ?_⟩⟩
          refine ⟨rfl, _, rfl, _, rfl, _, rfl, ns[i], (bs[i]).1, (bs[i]).2, rfl, hC _ _ (Ext.new Ext.rfl' ht) ⟨_, _, eo, ebs, rfl⟩⟩
        · intro H3 ys x3 hD3 hl3 hr3
          have ey := list_map (xs := ns.zip bs) (f := fun p => .bl (inB p.1 p.2.1 p.2.2)) (by rw [hl3, List.length_zip, z, Nat.min_self]) fun i y e => by
            obtain ⟨o, b, e1, e2, e3⟩ := hr3 i y e
            exact ⟨(o, b), by rw [List.getElem?_zip_eq_some]; exact ⟨e1, e2⟩, e3⟩
          refine ⟨D, (ns.zip bs).map fun p => inB p.1 p.2.1 p.2.2, rfl, SqL.of ?_, ?_⟩
          · rw [hD3, ey, List.map_map]
            rfl
          · rw [List.all_map]
            exact k _ (Ext.trans x2 x3)
end
end Hf
end
section
set_option maxHeartbeats 4000000
/-! D2: the texts of programs.py. -/
namespace Hf
open PySem PySem.Spec PyProof.Rows L2
/-! ### numbers -/
theorem dig_range {c : Nat} (h : digC c = true) : 48 ≤ c ∧ c ≤ 57 := by
  have m : c ∈ ("0123456789" : Str).cps.toList := of_decide_eq_true h
  have e : ("0123456789" : Str).cps.toList = [48, 49, 50, 51, 52, 53, 54, 55, 56, 57] := by decide +kernel
  rw [e] at m
  simp only [List.mem_cons, List.not_mem_nil, or_false] at m
  omega
theorem num_text {w : Str} (h1 : ¬ w = "") (h2 : ¬ 9 < w.length) (h3 : w.cps.toList.all digC = true) : ∃ n, intText? w = some n := by
  refine ⟨_, intText_digits (fun c hc => ?_) (fun e => h1 ?_) (by omega)⟩
  · have z := List.all_eq_true.mp h3 c hc
    exact dig_range z
  · exact SX.S_tl w ▸ congrArg SX.S e
theorem paired_get {α β : Type} {F : α → β → Prop} : ∀ {l₁ : List α} {l₂ : List β} {i : Nat} {a : α} {b : β}, Paired F l₁ l₂ → l₁[i]? = some a → l₂[i]? = some b → F a b
  | _, _, 0, _, _, .cons r _, e1, e2 => by
    cases e1
    cases e2
    exact r
  | _, _, i + 1, _, _, .cons _ t, e1, e2 => paired_get (i := i) t e1 e2
  | _, _, 0, _, _, .nil, e1, _ => by cases e1
  | _, _, _ + 1, _, _, .nil, e1, _ => by cases e1
section
variable {P : Program} {w : World} {K : Fg} {mg : Str → Option Value} {base : Heap}
/-! ### line_text -/
def spLineText : Sp := fun vs H Q _ => ∃ p xs ys, vs = [.ref p] ∧ H p = some (.tup xs) ∧ Paired SV xs ys ∧ xs.length ≤ 1000 ∧ (ys.map (·.length)).sum + ys.length ≤ 1000000 ∧ ∀ H', Ext H H' → Q (.str (Txt.join sp ys)) H'
theorem scLineText : FnScope ["item", "part"] ["item"] (defScope sLineText) := ⟨rfl, rfl, rfl, by decide +kernel, rfl, by decide +kernel, by decide +kernel⟩
theorem c_lineText (T : Txt K mg w) : Cal0 P w K mg base 1 "line_text" spLineText := by
  refine cal_of (i := 6) T rfl (by decide +kernel) scLineText (fun _ _ _ _ _ _ us hl => match us, hl with | [_], _ => rfl) (fun vs H Q E h => ?_) (fun f cdv A outer s H vs Q E hr h => ?_)
  · obtain ⟨p, xs, ys, rfl, _⟩ := h
    rfl
  · obtain ⟨p, xs, ys, rfl, hp, hv, hl, hz, k⟩ := h
    refine ⟨_, (pss_one (ps_ret (pe_join pe_str (pe_lc (own := [("part", 1)]) (g := (gName 1))  (by rfl) scLineText.nd (pi_tup (pv 0)) (blkOk_by (N := ["item", "part"]) (sc := defScope sLineText) (by decide +kernel)) (fun _ _ _ _ _ => by exact (pg_name (i := 1) scLineText.nd (by rfl) (Or.inl (by rfl)))) (fun _ _ _ _ _ => by exact pts_nil) (fun _ _ _ _ _ => by exact (pe_callTy call_strA (by rfl) (fr T "str") boot_str (pa_cons (pv 1) pa_nil))))))), ?_⟩
    have hly := hv.length
    refine ⟨⟨_, rfl⟩, _, rfl, p, rfl, ⟨_, SqT.of hp⟩, fun D hD => ?_⟩
    refine lc_ext (walk_tup (K := K) (a := p) (xs := xs)) (fun i _ y => ∃ t, ys[i]? = some t ∧ y = .str t) (fun _ _ _ _ _ h => h) hD (by omega) (fun H' x => SqT.of (x _ _ hp)) ?_ ?_
    · rintro i x H3 H4 C hi x3 ⟨rfl, ex⟩ hC
      obtain ⟨t, et, sv⟩ : ∃ t, ys[i]? = some t ∧ SV x t := by
        have hi2 : i < ys.length := by omega
        exact ⟨ys[i], List.getElem?_eq_getElem hi2, paired_get hv ex (List.getElem?_eq_getElem hi2)⟩
      exact ⟨rfl, _, rfl, x, t, rfl, sv, hC _ _ Ext.rfl' ⟨t, et, rfl⟩⟩
    · intro H3 zs x3 hD3 hl3 hr3
      have ez : zs = ys.map V.str := list_map (by omega) fun i y e => hr3 i y e
      refine ⟨sp, D, ys, rfl, rfl, .inl (SqL.of (by rw [hD3, ez])), ?_, k _ x3⟩
      show _ + ys.length * 1 ≤ 16777216
      omega
/-! ### parse_number -/
def spParseNum : Sp := fun vs H Q _ => ∃ wd, vs = [.str wd] ∧ wd.length ≤ 100000 ∧ ∀ H', Ext H H' → Q (numV (parseNum wd)) H'
theorem scParseNum : FnScope ["word", "sign"] ["word"] (defScope sParseNum) := ⟨rfl, rfl, rfl, by decide +kernel, rfl, by decide +kernel, by decide +kernel⟩
theorem c_parseNum (T : Txt K mg w) : Cal0 P w K mg base 1 "parse_number" spParseNum := by
  refine cal_of (i := 7) T rfl (by decide +kernel) scParseNum (fun _ _ _ _ _ _ us hl => match us, hl with | [_], _ => rfl) (fun vs H Q E h => ?_) (fun f cdv A outer s H vs Q E hr h => ?_)
  · obtain ⟨wd, rfl, _⟩ := h
    rfl
  · obtain ⟨wd, rfl, hl, k⟩ := h
    have hz : wd.length ≤ sizeLine := by
      rw [sizeLine_eq]
      omega
    refine ⟨_, (pss_cons (ps_if (PW.pt (pw_or (pt_cmpR op_eq (pv 0) pe_str (nomark _)) (pw_or (pt_cmpR op_gt (pe_callB call_len_str (by rfl) (fr T "len") boot_len (pa_cons (pv 0) pa_nil)) (C8.pe_gc (by rfl) (cn T "MAX_DIGITS" 9)) (nomark _)) (pw_or1 (pt_not (pt_val (pe_callB (cr_all (by rfl)) (by rfl) (fr T "all") boot_all (pa_cons (pe_lc (own := [("sign", 1)]) (g := (gName 1))  (by rfl) scParseNum.nd (pi_str (pv 0)) (blkOk_by (N := ["word", "sign"]) (sc := defScope sParseNum) (by decide +kernel)) (fun _ _ _ _ _ => by exact (pg_name (i := 1) scParseNum.nd (by rfl) (Or.inl (by rfl)))) (fun _ _ _ _ _ => by exact pts_nil) (fun _ _ _ _ _ => by exact (pe_cmpR op_in_sign (pv 1) pe_str (by with_unfolding_all rfl)))) pa_nil)))))))) (pss_one (ps_ret pe_non)) pss_nil)
      (pss_one (ps_ret (pe_ifExp (PW.pt (pw_or (pt_cmpR op_eq (pv 0) pe_str (nomark _)) (pw_or1 (pt_cmpR op_ne (pe_ix ix_str (pv 0) pe_int (fun _ _ => rfl)) pe_str (nomark _))))) (pe_callTy call_int_str (by rfl) (fr T "int") boot_int (pa_cons (pv 0) pa_nil)) pe_non)))), ?_⟩
    refine ⟨_, rfl, rfl, _, rfl, ite2 (fun q => ?_) (fun q => ?_)⟩
    · have e : wd = "" := V.str.inj (of_decide_eq_true q)
      refine itT rfl ?_
      have z : parseNum wd = none := by
        unfold parseNum
        rw [if_pos (Or.inl e)]
      rw [z] at k
      exact k _ Ext.rfl'
    · have ne : ¬ wd = "" := fun e => q (decide_eq_true (congrArg V.str e))
      refine ⟨_, rfl, wd, rfl, hz, _, _, rfl, rfl, _, rfl, ite2 (fun q2 => ?_) (fun q2 => ?_)⟩
      · have e : 9 < wd.length := by
          have := of_decide_eq_true q2
          omega
        refine itT rfl ?_
        have z : parseNum wd = none := by
          unfold parseNum
          rw [if_pos (Or.inr (Or.inl e))]
        rw [z] at k
        exact k _ Ext.rfl'
      · have nl : ¬ 9 < wd.length := fun e => q2 (decide_eq_true (by show (9 : Int) < (wd.length : Int); omega))
        refine ⟨_, rfl, wd, rfl, fun D hD => ?_⟩
        refine lc_ext (walk_str (z := wd)) (fun i _ y => ∃ c, wd.cps.toList[i]? = some c ∧ y = .bl (digC c)) (fun _ _ _ _ _ h => h) hD hl (fun _ _ => trivial) ?_ ?_
        · rintro i x H3 H4 C hi x3 ⟨rfl, c, ec, rfl⟩ hC
          exact ⟨rfl, _, rfl, c, _, rfl, rfl, hC _ _ Ext.rfl' ⟨c, by rw [Array.getElem?_toList]; exact ec, rfl⟩⟩
        · intro H3 zs x3 hD3 hl3 hr3
          have ez : zs = wd.cps.toList.map fun c => V.bl (digC c) := list_map (by rw [hl3, Array.length_toList]) fun i y e => hr3 i y e
          refine ⟨D, wd.cps.toList.map digC, rfl, SqL.of (by rw [hD3, ez, List.map_map] <;> rfl), _, rfl, ?_⟩
          rw [List.all_map]
          refine ite2 (fun q3 => ?_) (fun q3 => ?_)
          · have e : wd.cps.toList.all digC = false := by
              have z : (!(wd.cps.toList.all digC)) = true := q3
              rw [Bool.not_eq_true'] at z
              exact z
            have z : parseNum wd = none := by
              unfold parseNum
              rw [if_pos (Or.inr (Or.inr e))]
            rw [z] at k
            exact k _ x3
          · have e : wd.cps.toList.all digC = true := by
              have z : ¬ (!(wd.cps.toList.all digC)) = true := q3
              rw [Bool.not_eq_true', Bool.not_eq_false] at z
              exact z
            obtain ⟨n, hn⟩ := num_text ne nl e
            have z : parseNum wd = if wd = "0" ∨ ¬ wd.cps.toList.head? = some 48 then intText? wd else none := by
              unfold parseNum
              rw [if_neg]
              rintro (h | h | h)
              · exact ne h
              · exact nl h
              · rw [e] at h
                cases h
            rw [z] at k
            refine ⟨_, rfl, rfl, _, rfl, ite2 (fun q4 => ?_) (fun q4 => ?_)⟩
            · have e0 : wd = "0" := V.str.inj (of_decide_eq_true q4)
              rw [if_pos (Or.inl e0), hn] at k
              exact itT rfl ⟨_, rfl, wd, n, rfl, hn, by omega, k _ x3⟩
            · have n0 : ¬ wd = "0" := fun e => q4 (decide_eq_true (congrArg V.str e))
              obtain ⟨c, r, ec⟩ : ∃ c r, wd.cps.toList = c :: r := by
                cases ec : wd.cps.toList with
                | nil => exact absurd (SX.S_tl wd ▸ congrArg SX.S ec) ne
                | cons c r => exact ⟨c, r, rfl⟩
              refine ⟨_, rfl, wd, 0, c, rfl, rfl, hz, by rw [ec]; exact atI_nat (j := 0) rfl, rfl, _, rfl, ite2 (fun q5 => ?_) (fun q5 => ?_)⟩
              · have nc : ¬ c = 48 := fun w => by
                  have z : (!decide (V.str ⟨#[c]⟩ = V.str "0")) = true := q5
                  rw [Bool.not_eq_true', decide_eq_false_iff_not] at z
                  refine z ?_
                  rw [w]
                  decide +kernel
                rw [if_pos (Or.inr (by rw [ec]; exact fun w => nc (Option.some.inj w))), hn] at k
                exact ⟨_, rfl, wd, n, rfl, hn, by omega, k _ x3⟩
              · have ec2 : c = 48 := by
                  have z : ¬ (!decide (V.str ⟨#[c]⟩ = V.str "0")) = true := q5
                  rw [Bool.not_eq_true', decide_eq_false_iff_not, Classical.not_not] at z
                  have z2 : (⟨#[c]⟩ : Str) = "0" := V.str.inj z
                  have z3 : (⟨#[c]⟩ : Str).cps.toList = [48] := by
                    rw [z2]
                    decide +kernel
                  exact (List.cons.inj z3).1
                rw [if_neg (by
                  rintro (h | h)
                  · exact n0 h
                  · exact h (by rw [ec, ec2] <;> rfl))] at k
                exact k _ x3
/-! ### parse_item -/
def spParseItem : Sp := fun vs H Q _ => ∃ line, vs = [.str line] ∧ line.length ≤ 90000 ∧ ∀ H' p, Ext H H' → H' p = some (.tup (.str (wordOf line) :: (numsOf line).map numV)) → Q (.ref p) H'
theorem scParseItem : FnScope ["line", "word", "numbers", "number"] ["line"] (defScope sParseItem) := ⟨rfl, rfl, rfl, by decide +kernel, rfl, by decide +kernel, by decide +kernel⟩
theorem c_parseItem (T : Txt K mg w) : Cal0 P w K mg base 2 "parse_item" spParseItem := by
  refine cal_of (i := 8) T rfl (by decide +kernel) scParseItem (fun _ _ _ _ _ _ us hl => match us, hl with | [_], _ => rfl) (fun vs H Q E h => ?_) (fun f cdv A outer s H vs Q E hr h => ?_)
  · obtain ⟨line, rfl, _⟩ := h
    rfl
  · obtain ⟨line, rfl, hl, k⟩ := h
    refine ⟨_, (pss_cons (ps_asg (pe_split (pv 0) pe_str) (pg_star1 (by rfl) (pgs_cons (pg_name (i := 1) scParseItem.nd (by rfl) (Or.inl (by rfl))) (pgs_cons (pg_name (i := 2) scParseItem.nd (by rfl) (Or.inl (by rfl))) pgs_nil))))
      (pss_one (ps_ret (pe_tup (pa_cons (pv 1) (StX.pa_star (pe_lc (own := [("number", 3)]) (g := (gName 3))  (by rfl) scParseItem.nd (pi_list (pv 2)) (blkOk_by (N := ["line", "word", "numbers", "number"]) (sc := defScope sParseItem) (by decide +kernel)) (fun _ _ _ _ _ => by exact (pg_name (i := 3) scParseItem.nd (by rfl) (Or.inl (by rfl)))) (fun _ _ _ _ _ => by exact pts_nil) (fun _ _ _ _ _ => by exact (C8.pe_c (c_parseNum T) hr (by decide) (by rfl) (pa_cons (pv 3) pa_nil)))) pa_nil)))))), ?_⟩
    have hz : line.length + 2 ≤ sizeLine := by
      rw [sizeLine_eq]
      omega
    refine ⟨_, rfl, ⟨_, rfl⟩, line, sp, rfl, rfl, by decide +kernel, hz, fun p hp => ?_⟩
    have tl := tail_len line
    have e0 : (Txt.split line sp).map V.str = .str (wordOf line) :: (tailOf line).map .str := by rw [split_cons] <;> rfl
    refine ⟨p, _, _, rfl, SqL.of (upd_same.trans (by rw [e0])), by rw [List.length_map]; omega, fun q hq => ?_⟩
    have x1 : Ext H (upd (upd H p (.lst ((Txt.split line sp).map V.str))) q (.lst ((tailOf line).map .str))) := Ext.new (Ext.new Ext.rfl' hp) hq
    have hq1 : (upd (upd H p (.lst ((Txt.split line sp).map V.str))) q (.lst ((tailOf line).map .str))) q = some (.lst ((tailOf line).map .str)) := upd_same
    generalize upd (upd H p (.lst ((Txt.split line sp).map V.str))) q (.lst ((tailOf line).map .str)) = H1 at hq1 x1 ⊢
    refine ⟨_, _, rfl, _, _, rfl, rfl, ?_⟩
    refine ⟨_, rfl, _, rfl, q, rfl, ⟨_, SqL.of hq1⟩, fun D hD => ?_⟩
    refine lc_ext (walk_list (K := K) (a := q) (xs := (tailOf line).map .str)) (fun i _ y => ∃ o, (numsOf line)[i]? = some o ∧ y = numV o) (fun _ _ _ _ _ h => h) hD (by rw [List.length_map]; omega) (fun H' x => SqL.of (x _ _ hq1)) ?_ ?_
    · rintro i x H3 H4 C hi x3 ⟨rfl, ex⟩ hC
      rw [List.getElem?_map] at ex
      obtain ⟨t, et, rfl⟩ := Option.map_eq_some_iff.mp ex
      have ht : t.length ≤ line.length := part_len (by rw [split_cons]; exact List.mem_cons_of_mem _ (List.mem_of_getElem? et))
      exact ⟨rfl, _, rfl, t, rfl, by omega, fun H' x4 => hC _ _ x4 ⟨parseNum t, by unfold numsOf; rw [List.getElem?_map, et] <;> rfl, rfl⟩⟩
    · intro H3 zs x3 hD3 hl3 hr3
      have ez : zs = (numsOf line).map numV := list_map (by rw [hl3]; unfold numsOf; rw [List.length_map, List.length_map]) fun i y e => hr3 i y e
      refine ⟨D, zs, rfl, .inr (SqL.of hD3), ?_, fun r hr => ?_⟩
      · rw [List.append_nil, List.length_cons, hl3, List.length_map, sizeLine_eq]
        omega
      · exact k _ r (Ext.new (Ext.trans x1 x3) hr) (upd_same.trans (by rw [List.append_nil, ez]))
end
end Hf
end
section
set_option maxHeartbeats 4000000
/-! D3: the checks of machine.py, an own error made. -/
namespace Hf
open PySem PySem.Spec PyProof.Rows L2
section
variable {P : Program} {w : World} {K : Fg} {mg : Str → Option Value} {base : Heap}
/-! ### is_classes -/
def spClasses : Sp := fun vs H Q _ => ∃ p ns, vs = [.ref p] ∧ H p = some (.lst (List.map V.int ns)) ∧ ns.length ≤ 100000 ∧ ∀ H', Ext H H' → Q (.bl (okClasses ns)) H'
theorem scClasses : FnScope ["value", "blocks"] ["value"] (defScope sIsClasses) := ⟨rfl, rfl, rfl, by decide +kernel, rfl, by decide +kernel, by decide +kernel⟩
theorem c_classes (T : Txt K mg w) : Cal0 P w K mg base 3 "is_classes" spClasses := by
  refine cal_of (i := 9) T rfl (by decide +kernel) scClasses (fun _ _ _ _ _ _ us hl => match us, hl with | [_], _ => rfl) (fun vs H Q E h => ?_) (fun f cdv A outer s H vs Q E hr h => ?_)
  · obtain ⟨p, ns, rfl, _⟩ := h
    rfl
  · obtain ⟨p, ns, rfl, hp, hl, k⟩ := h
    refine ⟨_, (pss_cons (ps_if (PW.pt (pw_or (pt_not (pt_val (C8.pe_c (c_isRow T) hr (by decide) (by rfl) (pa_cons (pv 0) pa_nil)))) (pw_or1 (pt_not (pt_chain op_le op_le pe_int (pe_callB call_len_seq (by rfl) (fr T "len") boot_len (pa_cons (pv 0) pa_nil)) (C8.pe_gc (by rfl) (cn T "MAX_CLASSES" 3))))))) (pss_one (ps_ret pe_bl)) pss_nil)
      (pss_one (ps_ret (pe_callB (cr_all (by rfl)) (by rfl) (fr T "all") boot_all (pa_cons (pe_lc (own := [("blocks", 1)]) (g := (gName 1))  (by rfl) scClasses.nd (pi_list (pv 0)) (blkOk_by (N := ["value", "blocks"]) (sc := defScope sIsClasses) (by decide +kernel)) (fun _ _ _ _ _ => by exact (pg_name (i := 1) scClasses.nd (by rfl) (Or.inl (by rfl)))) (fun _ _ _ _ _ => by exact pts_nil) (fun _ _ _ _ _ => by exact (C8.pe_c (c_between T) hr (by decide) (by rfl) (pa_cons (pv 1) (pa_cons pe_int (pa_cons (C8.pe_gc (by rfl) (cn T "MAX_BLOCKS" 8)) pa_nil)))))) pa_nil))))), ?_⟩
    have el : (((ns.map V.int).length : Nat) : Int) = (ns.length : Int) := by rw [List.length_map]
    refine ⟨_, rfl, p, rfl, .inl ⟨_, hp⟩, fun H1 x1 => ⟨_, rfl, itF (by decide) ?_⟩⟩
    have hp1 := x1 _ _ hp
    refine ⟨_, rfl, p, _, rfl, .inl (SqL.of hp1), _, _, rfl, rfl, _, rfl, ite2 (fun q => ⟨_, _, rfl, rfl, _, rfl, ?_⟩) (fun q => ?_)⟩
    · have q1 : (1 : Int) ≤ ns.length := by
        rw [← el]
        exact of_decide_eq_true q
      refine ite2 (fun q2 => ?_) (fun q2 => ?_)
      · have q3 : ¬ (ns.length : Int) ≤ 3 := by
          rw [← el]
          have z : (!decide ((((ns.map V.int).length : Nat) : Int) ≤ 3)) = true := q2
          rw [Bool.not_eq_true', decide_eq_false_iff_not] at z
          exact z
        have z : okClasses ns = false := by
          unfold okClasses
          rw [decide_eq_false (show ¬ ns.length ≤ 3 by omega), Bool.and_false, Bool.false_and]
        rw [z] at k
        exact k _ x1
      · have q3 : (ns.length : Int) ≤ 3 := by
          rw [← el]
          have z : ¬ (!decide ((((ns.map V.int).length : Nat) : Int) ≤ 3)) = true := q2
          rw [Bool.not_eq_true', decide_eq_false_iff_not, Classical.not_not] at z
          exact z
        have z : okClasses ns = ns.all fun n => inB (some n) 1 8 := by
          unfold okClasses
          rw [decide_eq_true (show 1 ≤ ns.length by omega), decide_eq_true (show ns.length ≤ 3 by omega), Bool.true_and, Bool.true_and]
        rw [z] at k
        refine ⟨_, rfl, p, rfl, ⟨_, SqL.of hp1⟩, fun D hD => ?_⟩
        refine lc_ext (walk_list (K := K) (a := p) (xs := ns.map .int)) (fun i _ y => ∃ n, ns[i]? = some n ∧ y = .bl (inB (some n) 1 8)) (fun _ _ _ _ _ h => h) hD (by rw [List.length_map]; exact hl) (fun H' x => SqL.of (x _ _ hp1)) ?_ ?_
        · rintro i x H3 H4 C hi x3 ⟨rfl, ex⟩ hC
          rw [List.getElem?_map] at ex
          obtain ⟨n, en, rfl⟩ := Option.map_eq_some_iff.mp ex
          exact ⟨rfl, _, rfl, some n, 1, 8, rfl, hC _ _ Ext.rfl' ⟨n, en, rfl⟩⟩
        · intro H3 zs x3 hD3 hl3 hr3
          have ez : zs = ns.map fun n => V.bl (inB (some n) 1 8) := list_map (by rw [hl3, List.length_map]) fun i y e => hr3 i y e
          refine ⟨D, ns.map fun n => inB (some n) 1 8, rfl, SqL.of (by rw [hD3, ez, List.map_map] <;> rfl), ?_⟩
          rw [List.all_map]
          exact k _ (Ext.trans x1 x3)
    · have z : okClasses ns = false := by
        unfold okClasses
        have q1 : ¬ (1 : Int) ≤ ns.length := fun y => q (decide_eq_true (by rw [el]; exact y))
        rw [decide_eq_false (show ¬ 1 ≤ ns.length by omega), Bool.false_and, Bool.false_and]
      rw [z] at k
      exact ⟨_, rfl, itT rfl (k _ x1)⟩
/-! ### fits -/
def spFits : Sp := fun vs H Q _ => ∃ v o a b, vs = [v, .int a, .int b] ∧ Tp H v (opD o) ∧ List.length (Prod.snd o) ≤ 100000 ∧ ∀ H', Ext H H' → Q (.bl (fitsB a b o)) H'
theorem scFits : FnScope ["operation", "kinds", "slots"] ["operation", "kinds", "slots"] (defScope sFits) := ⟨rfl, rfl, rfl, by decide +kernel, rfl, by decide +kernel, by decide +kernel⟩
theorem ints_num (ns : List Int) : ns.map V.int = (ns.map some).map numV := by
  rw [List.map_map]
  exact List.map_congr_left fun _ _ => rfl
theorem op_nums {o : Op} {bs : List (Int × Int)} (h : isOpB o.1 (o.2.map some) = true) (e : opBounds o.1 = some bs) : o.2.length = bs.length := by
  unfold isOpB at h
  rw [e, Bool.and_eq_true, decide_eq_true_eq, List.length_map] at h
  exact h.1
theorem c_fits (T : Txt K mg w) : Cal0 P w K mg base 4 "fits" spFits := by
  refine cal_of (i := 10) T rfl (by decide +kernel) scFits (fun _ _ _ _ _ _ us hl => match us, hl with | [_, _, _], _ => rfl) (fun vs H Q E h => ?_) (fun f cdv A outer s H vs Q E hr h => ?_)
  · obtain ⟨v, o, a, b, rfl, _⟩ := h
    rfl
  · obtain ⟨v, o, a, b, rfl, hv, hl, k⟩ := h
    obtain ⟨p, rfl, hp⟩ := hv.op
    refine ⟨_, (pss_cons (ps_if (pt_not (pt_val (C8.pe_c (c_isOp T) hr (by decide) (by rfl) (pa_cons (pv 0) pa_nil)))) (pss_one (ps_ret pe_bl)) pss_nil)
      (pss_cons (ps_if (PW.pt (pw_and (pt_cmpR op_eq (pe_ix ix_tup (pv 0) pe_int (fun _ _ => rfl)) pe_str (nomark _)) (pw_and1 (pt_cmpR op_ge (pe_ix ix_tup (pv 0) pe_int (fun _ _ => rfl)) (pv 1) (nomark _))))) (pss_one (ps_ret pe_bl)) pss_nil)
      (pss_one (ps_ret (pe_or (pe_cmpR op_eq (pe_ix ix_tup (pv 0) pe_int (fun _ _ => rfl)) pe_str (nomark _)) (pe_one (pe_cmpR op_lt (pe_ix ix_tup (pv 0) (pe_un un_neg pe_int) (fun _ _ => rfl)) (pv 2) (nomark _)))))))), ?_⟩
    refine ⟨_, rfl, p, o.1, o.2.map some, rfl, by rw [hp, ints_num], by rw [List.length_map]; exact hl, fun H1 x1 => ⟨_, rfl, ?_⟩⟩
    have hp1 := x1 _ _ hp
    refine ite2 (fun q => ?_) (fun q => ?_)
    · have z : fitsB a b o = false := by
        have y : (!isOpB o.1 (o.2.map some)) = true := q
        rw [Bool.not_eq_true'] at y
        unfold fitsB
        rw [y, Bool.false_and, Bool.false_and]
      rw [z] at k
      exact k _ x1
    · have y : isOpB o.1 (o.2.map some) = true := by
        have y : ¬ (!isOpB o.1 (o.2.map some)) = true := q
        rw [Bool.not_eq_true', Bool.not_eq_false] at y
        exact y
      refine ⟨_, rfl, p, _, 0, _, rfl, rfl, SqT.of hp1, atI_nat (j := 0) rfl, rfl, _, rfl, ?_⟩
      -- operation[0] == 'drain' or operation[-1] < slots
      have last : (if decide (o.1 = "alloc") && decide (a ≤ o.2.headD 0) then False else True) → (tRet (tOrV (tOp rEq (tOp (rIxT K) (tVar 0) (tC (.int 0))) (tC (.str "drain"))) (tOp (rI0 fun i j => .bl (decide (i < j))) (tOp (rIxT K) (tVar 0) (tUn (rU fun i => .int (-i)) (tC (.int 1)))) (tVar 2)))) { nx := fun _ H' => Q .non H', rt := Q } [some (.ref p), some (.int a), some (.int b)] H1 := by
        intro hna
        have na : (decide (o.1 = "alloc") && decide (a ≤ o.2.headD 0)) = false := by
          cases z : (decide (o.1 = "alloc") && decide (a ≤ o.2.headD 0)) with
          | false => rfl
          | true =>
            rw [z] at hna
            exact absurd hna (by simp)
        have z : fitsB a b o = (decide (o.1 = "drain") || decide (o.2.getLastD 0 < b)) := by
          unfold fitsB
          rw [y, na, Bool.true_and, Bool.not_false, Bool.true_and]
        rw [z] at k
        refine ⟨_, rfl, p, _, 0, _, rfl, rfl, SqT.of hp1, atI_nat (j := 0) rfl, rfl, _, rfl, ite2 (fun q2 => ?_) (fun q2 => ?_)⟩
        · have e : o.1 = "drain" := V.str.inj (of_decide_eq_true q2)
          rw [decide_eq_true e, Bool.true_or] at k
          exact k _ x1
        · have e : ¬ o.1 = "drain" := fun e => q2 (decide_eq_true (congrArg V.str e))
          rw [decide_eq_false e, Bool.false_or] at k
          obtain ⟨r, n, en⟩ : ∃ r n, o.2 = r ++ [n] := by
            cases hb : opBounds o.1 with
            | none =>
              unfold isOpB at y
              rw [hb] at y
              cases y
            | some bs =>
              have hlen := op_nums y hb
              have hpos : 1 ≤ bs.length := by
                unfold opBounds at hb
                repeat' split at hb
                all_goals first
                  | (cases hb; decide)
                  | exact absurd (by assumption) e
                  | cases hb
              rcases List.eq_nil_or_concat o.2 with z | ⟨r, n, z⟩
              · rw [z] at hlen
                exact absurd hlen (by simp; omega)
              · exact ⟨r, n, by rw [z, List.concat_eq_append]⟩
          have el : o.2.getLastD 0 = n := by
            rw [en, List.getLastD_concat]
          rw [el] at k
          have ea : (V.str o.1 :: o.2.map V.int) = (V.str o.1 :: r.map V.int) ++ [V.int n] := by
            rw [en, List.map_append]
            rfl
          exact ⟨_, rfl, 1, rfl, p, _, -1, .int n, rfl, rfl, SqT.of hp1, by rw [ea]; exact atI_last _ _, _, rfl, _, _, rfl, rfl, k _ x1⟩
      refine ite2 (fun q2 => ?_) (fun q2 => ?_)
      · have e : o.1 = "alloc" := V.str.inj (of_decide_eq_true q2)
        obtain ⟨n, r, en⟩ : ∃ n r, o.2 = n :: r := by
          have hlen := op_nums y (bs := [(0, 2), (0, 7)]) (by rw [e] <;> rfl)
          cases hh : o.2 with
          | nil =>
            rw [hh] at hlen
            cases hlen
          | cons n r => exact ⟨n, r, rfl⟩
        refine ⟨_, rfl, p, _, 1, .int n, rfl, rfl, SqT.of hp1, by rw [en]; exact atI_nat (j := 1) rfl, _, rfl, _, _, rfl, rfl, _, rfl, ite2 (fun q3 => ?_) (fun q3 => ?_)⟩
        · have z : fitsB a b o = false := by
            unfold fitsB
            rw [decide_eq_true e, en, Bool.true_and]
            show (_ && !decide (a ≤ n) && _) = false
            rw [q3, Bool.not_true, Bool.and_false, Bool.false_and]
          rw [z] at k
          exact k _ x1
        · refine last ?_
          rw [en, if_neg]
          · trivial
          · rw [Bool.and_eq_true]
            exact fun z => q3 z.2
      · refine itF (fun z => by cases z) (last ?_)
        have e : ¬ o.1 = "alloc" := fun e => q2 (decide_eq_true (congrArg V.str e))
        rw [decide_eq_false e, Bool.false_and, if_neg Bool.false_ne_true]
        trivial
/-! ### is_thread -/
def ThR (H : Hp) (v : V) (t : Thr) : Prop := ∃ p l vs, v = .ref p ∧ H p = some (.tup [.int t.1, .ref l]) ∧ H l = some (.lst vs) ∧ TpL H vs (t.2.map opD)
theorem ThR.ext {H H' : Hp} {v : V} {t : Thr} (x : Ext H H') (h : ThR H v t) : ThR H' v t := by
  obtain ⟨p, l, vs, rfl, h1, h2, h3⟩ := h
  exact ⟨p, l, vs, rfl, x _ _ h1, x _ _ h2, TpL.mono (TK.of x) _ _ h3⟩
/-- no program is longer than the model bears -/
def ThZ (t : Thr) : Prop := t.2.length ≤ 100000 ∧ ∀ o ∈ t.2, o.2.length ≤ 100000
def spThread : Sp := fun vs H Q _ => ∃ v t a kk b, vs = [v, .int a, .int kk, .int b] ∧ ThR H v t ∧ ThZ t ∧ ∀ H', Ext H H' → Q (.bl (threadB a kk b t)) H'
theorem scThread : FnScope ["value", "sockets", "kinds", "slots", "operation"] ["value", "sockets", "kinds", "slots"] (defScope sIsThread) := ⟨rfl, rfl, rfl, by decide +kernel, rfl, by decide +kernel, by decide +kernel⟩
theorem c_thread (T : Txt K mg w) : Cal0 P w K mg base 5 "is_thread" spThread := by
  refine cal_of (i := 11) T rfl (by decide +kernel) scThread (fun _ _ _ _ _ _ us hl => match us, hl with | [_, _, _, _], _ => rfl) (fun vs H Q E h => ?_) (fun f cdv A outer s H vs Q E hr h => ?_)
  · obtain ⟨v, t, a, kk, b, rfl, _⟩ := h
    rfl
  · obtain ⟨v, t, a, kk, b, rfl, ⟨p, l, vs, rfl, hp, hL, hv⟩, ⟨hz, hz2⟩, k⟩ := h
    refine ⟨_, (pss_cons (ps_if (PW.pt (pw_or (pt_not (pt_val (pe_callB call_isi (by rfl) (fr T "isinstance") boot_isinstance (pa_cons (pv 0) (pa_cons (pe_ty (by rfl) (fr T "tuple") boot_tuple) pa_nil))))) (pw_or (pt_cmpR op_ne (pe_callB call_len_seq (by rfl) (fr T "len") boot_len (pa_cons (pv 0) pa_nil)) pe_int (nomark _)) (pw_or1 (pt_not (pt_val (C8.pe_c (c_between T) hr (by decide) (by rfl) (pa_cons (pe_ix ix_tup (pv 0) pe_int (fun _ _ => rfl)) (pa_cons pe_int (pa_cons (pe_op op_sub (pv 1) pe_int) pa_nil)))))))))) (pss_one (ps_ret pe_bl)) pss_nil)
      (pss_cons (ps_if (PW.pt (pw_or (pt_not (pt_val (C8.pe_c (c_isRow T) hr (by decide) (by rfl) (pa_cons (pe_ix ix_tup (pv 0) pe_int (fun _ _ => rfl)) pa_nil)))) (pw_or1 (pt_cmpR op_gt (pe_callB call_len_seq (by rfl) (fr T "len") boot_len (pa_cons (pe_ix ix_tup (pv 0) pe_int (fun _ _ => rfl)) pa_nil)) (C8.pe_gc (by rfl) (cn T "MAX_OPERATIONS" 30)) (nomark _))))) (pss_one (ps_ret pe_bl)) pss_nil)
      (pss_one (ps_ret (pe_callB (cr_all (by rfl)) (by rfl) (fr T "all") boot_all (pa_cons (pe_lc (own := [("operation", 4)]) (g := (gName 4))  (by rfl) scThread.nd (pi_list (pe_ix ix_tup (pv 0) pe_int (fun _ _ => rfl))) (blkOk_by (N := ["value", "sockets", "kinds", "slots", "operation"]) (sc := defScope sIsThread) (by decide +kernel)) (fun _ _ _ _ _ => by exact (pg_name (i := 4) scThread.nd (by rfl) (Or.inl (by rfl)))) (fun _ _ _ _ _ => by exact pts_nil) (fun _ _ _ _ _ => by exact (C8.pe_c (c_fits T) hr (by decide) (by rfl) (pa_cons (pv 4) (pa_cons (pv 2) (pa_cons (pv 3) pa_nil)))))) pa_nil)))))), ?_⟩
    have hlv : vs.length = t.2.length := by rw [hv.length, List.length_map]
    refine ⟨_, rfl, _, _, _, _, _, rfl, .ty "tuple", .base (.tup hp), kit_ty (r := true) (by decide +kernel), _, rfl, itF (by decide) ?_⟩
    refine ⟨_, rfl, p, _, rfl, .inr (SqT.of hp), rfl, _, rfl, itF (by simp) ?_⟩
    refine ⟨_, rfl, p, _, 0, _, rfl, rfl, SqT.of hp, atI_nat (j := 0) rfl, _, rfl, _, _, rfl, rfl, some t.1, 0, a - 1, rfl, _, rfl, ite2 (fun q => ?_) (fun q => ?_)⟩
    · have z : threadB a kk b t = false := by
        have y : (!inB (some t.1) 0 (a - 1)) = true := q
        rw [Bool.not_eq_true'] at y
        unfold threadB
        rw [y, Bool.false_and]
      rw [z] at k
      exact k _ Ext.rfl'
    · have y : inB (some t.1) 0 (a - 1) = true := by
        have y : ¬ (!inB (some t.1) 0 (a - 1)) = true := q
        rw [Bool.not_eq_true', Bool.not_eq_false] at y
        exact y
      refine ⟨_, rfl, p, _, 1, _, rfl, rfl, SqT.of hp, atI_nat (j := 1) rfl, l, rfl, .inl ⟨_, hL⟩, fun H1 x1 => ⟨_, rfl, itF (by decide) ?_⟩⟩
      refine ⟨_, rfl, p, _, 1, _, rfl, rfl, SqT.of (x1 _ _ hp), atI_nat (j := 1) rfl, l, vs, rfl, .inl (SqL.of (x1 _ _ hL)), _, _, rfl, rfl, _, rfl, ite2 (fun q2 => ?_) (fun q2 => ?_)⟩
      · have e : 30 < t.2.length := by
          have := of_decide_eq_true q2
          omega
        have z : threadB a kk b t = false := by
          unfold threadB
          rw [decide_eq_false (show ¬ t.2.length ≤ 30 by omega), Bool.false_and, Bool.and_false]
        rw [z] at k
        exact k _ x1
      · have e : t.2.length ≤ 30 := by
          have z : ¬ (30 : Int) < vs.length := fun y => q2 (decide_eq_true y)
          omega
        have z : threadB a kk b t = t.2.all (fitsB kk b) := by
          unfold threadB
          rw [y, decide_eq_true e, Bool.true_and, Bool.true_and]
        rw [z] at k
        refine ⟨_, rfl, p, _, 1, _, rfl, rfl, SqT.of (x1 _ _ hp), atI_nat (j := 1) rfl, l, rfl, ⟨_, SqL.of (x1 _ _ hL)⟩, fun D hD => ?_⟩
        refine lc_ext (walk_list (K := K) (a := l) (xs := vs)) (fun i _ y => ∃ o, t.2[i]? = some o ∧ y = .bl (fitsB kk b o)) (fun _ _ _ _ _ h => h) hD (by omega) (fun H' x => SqL.of (x _ _ (x1 _ _ hL))) ?_ ?_
        · rintro i x H3 H4 C hi x3 ⟨rfl, ex⟩ hC
          obtain ⟨d, ed, hd⟩ := hv.get ex
          rw [List.getElem?_map] at ed
          obtain ⟨o, eo, rfl⟩ := Option.map_eq_some_iff.mp ed
          exact ⟨rfl, _, rfl, _, rfl, _, rfl, _, o, kk, b, rfl, Tp.mono (TK.of (Ext.trans x1 x3)) _ _ hd, hz2 o (List.mem_of_getElem? eo), fun H' x4 => hC _ _ x4 ⟨o, eo, rfl⟩⟩
        · intro H3 zs x3 hD3 hl3 hr3
          have ez : zs = t.2.map fun o => V.bl (fitsB kk b o) := list_map (by omega) fun i y e => hr3 i y e
          refine ⟨D, t.2.map (fitsB kk b), rfl, SqL.of (by rw [hD3, ez, List.map_map] <;> rfl), ?_⟩
          rw [List.all_map]
          exact k _ (Ext.trans x1 x3)
/-! ### own errors -/
/-- a def by its address -/
def FnB (CX : CXT) (P : Program) (w : World) (K : Fg) (mg : Str → Option Value) (base : Heap) (k : Nat) (f : Addr) (sp : Sp) : Prop := ∃ (fd : FuncData) (ps : List Str), FnOk P w K mg base CX k f fd ps sp ∧ Binds K fd ps []
theorem fnB_of {CX : CXT} {d : DefX} {i : Nat} {N ps : List Str} {k : Nat} {sp : Sp} (T : Txt K mg w) (hi : fns[i]? = some d) (S : FnScope N ps d.scope)
    (hb : ∀ (kV doc pm : Value) (an : Option Addr) (cdv ct : Value) (us : List Value), us.length = ps.length → bindArgs (PySem.W.fnOf d.name d.qual d.params d.body d.scope .none kV doc pm an cdv ct) ⟨us, []⟩ = pure (ps.zip us)) (len : ∀ vs H Q E, sp vs H Q E → vs.length = ps.length)
    (hbody : ∀ (f : Addr) (cdv : Value) (A : Around) (outer : List Env) (s : Shared) (H : Hp) (vs : List V) (Q : VK) (E : XK), Room k (A.deeper (envOfC d.qual d.scope s.heap.objs.size f cdv)) → sp vs H Q E →
      ∃ t, PSs (cxOf CX P w K mg base N d.qual d.scope f cdv A outer s H E) d.body t ∧ t { nx := fun _ H' => Q .non H', rt := Q } (L2.start N vs) H) : FnB CX P w K mg base (k + 1) (d.at_ K) sp := by
  obtain ⟨fd, F⟩ := T.def_ i _ hi
  exact ⟨fd, ps, F.ok S len fun cdv A outer s H vs Q E hr h => hbody (d.at_ K) cdv A outer s H vs Q E hr h, F.bindsN hb⟩
def spEx (C : Addr) (f : Str) : Sp := fun vs H Q _ => ∃ a v, vs = [.ref a, v] ∧ H a = some (exo a C none) ∧ ∀ dx, H dx = none → dx ≠ a → Q .non (upd (upd H dx (exd dx [(f, v)])) a (exo a C (some dx)))
theorem scIM : FnScope ["self", "name"] ["self", "name"] (defScope sIM) := ⟨rfl, rfl, rfl, by decide +kernel, rfl, by decide +kernel, by decide +kernel⟩
theorem scPE : FnScope ["self", "line"] ["self", "line"] (defScope sPE) := ⟨rfl, rfl, rfl, by decide +kernel, rfl, by decide +kernel, by decide +kernel⟩
theorem f_IM (T : Txt K mg w) : FnB L2.CX0 P w K mg base 1 (mA "InvalidMachine" "__init__" K) (spEx (cI K) "name") := by
  refine fnB_of (d := dM "InvalidMachine" "__init__" "InvalidMachine.__init__" sIM) (i := 0) T rfl scIM (fun _ _ _ _ _ _ us hl => match us, hl with | [_, _], _ => rfl) (fun vs H Q E h => ?_) (fun f cdv A outer s H vs Q E hr h => ?_)
  · obtain ⟨a, v, rfl, _⟩ := h
    rfl
  · obtain ⟨a, v, rfl, ha, k⟩ := h
    refine ⟨_, PSs.nox (pss_cons (ps_expr (pe_heinit (by rfl) (T.glo "HeapError" (by decide +kernel)) T.xH.rd T.xH.ga T.xH.ini (pa_cons (pv 0) (pa_cons pe_str pa_nil))))
      (pss_one (ps_ost (pv 0) (pv 1)))), ?_⟩
    exact ⟨_, rfl, a, cI K, _, rfl, by decide, T.xI.oc, ha, _, rfl, _, rfl, a, cI K, rfl, T.xI.oc, T.xI.no, .inl ⟨ha, fun dx h1 h2 => k dx h1 h2⟩⟩
theorem f_PE (T : Txt K mg w) : FnB L2.CX0 P w K mg base 1 (mA "ParseError" "__init__" K) (spEx (cP K) "line") := by
  refine fnB_of (d := dM "ParseError" "__init__" "ParseError.__init__" sPE) (i := 1) T rfl scPE (fun _ _ _ _ _ _ us hl => match us, hl with | [_, _], _ => rfl) (fun vs H Q E h => ?_) (fun f cdv A outer s H vs Q E hr h => ?_)
  · obtain ⟨a, v, rfl, _⟩ := h
    rfl
  · obtain ⟨a, v, rfl, ha, k⟩ := h
    refine ⟨_, PSs.nox (pss_cons (ps_expr (pe_heinit (by rfl) (T.glo "HeapError" (by decide +kernel)) T.xH.rd T.xH.ga T.xH.ini (pa_cons (pv 0) (pa_cons pe_str pa_nil))))
      (pss_one (ps_ost (pv 0) (pv 1)))), ?_⟩
    exact ⟨_, rfl, a, cP K, _, rfl, by decide, T.xP.oc, ha, _, rfl, _, rfl, a, cP K, rfl, T.xP.oc, T.xP.no, .inl ⟨ha, fun dx h1 h2 => k dx h1 h2⟩⟩
/-- what the making of such an error leaves -/
theorem mk_err {C : Addr} {f : Str} {v : V} {H : Hp} {Q : XK} (h : ∀ d H', Ext H H' → H' d = some (.xd [(f, v)]) → Q (.ref C) (some d) H') : [v].length ≤ 1000 ∧ ∀ a, H a = none → spEx C f (.ref a :: ([v] ++ [])) (upd H a (exo a C none))
    (fun v H2 => v = .non ∧ ∃ (d : Addr) (fs : List (Str × V)), H2 a = some (exo a C (some d)) ∧ H2 d = some (exd d fs) ∧ H d = none ∧ Q (.ref C) (some d) (upd (del H2 a) d (.xd fs))) (fun _ _ _ => False) := by
  refine ⟨by show 1 ≤ 1000; decide, fun a ha => ⟨a, v, rfl, upd_same, fun dx h1 h2 => ⟨rfl, dx, [(f, v)], upd_same, ?_, ?_, ?_⟩⟩⟩
  · rw [upd_ne h2, upd_same]
  · rw [upd_ne h2] at h1
    exact h1
  · refine h dx _ (fun b o e => ?_) upd_same
    have nba : b ≠ a := ne_of_none e ha
    have hdx : H dx = none := by
      rw [upd_ne h2] at h1
      exact h1
    rw [upd_ne (ne_of_none e hdx), del_ne nba, upd_ne nba, upd_ne (ne_of_none e hdx), upd_ne nba]
    exact e
section
variable {X : Cx} {C : Addr} {x f : Str} {v : V} {e : Expr} {te : TE} {k j : Nat} {p pos pos2 : Pos} {fI : Addr} {W : WX}
/-- raise C(e), C an own error with the field f -/
def tRaiseX (C : Addr) (te : TE) (W : WX) (f : Str) : TS := fun _ σ H => tMkO C (spEx C f) [] (tCons te tNil) σ H fun cls d H' => W cls d σ H'
theorem ps_raiseX (hc : X.calm = true) (T : OexT X.K C fI f) (F : FnB L2.CX0 X.prog X.w X.K X.mg X.base k fI (spEx C f)) (hr : Room j X.A) (hk : k + 1 ≤ j) (tk : Takes X W) (hg : Gl X x) (hm : X.mg x = some (.ref C)) (he : PE X e te)
    (hdb : (x == ("__debug__" : Str)) = false := by decide) (hst : starEach [e] X.env = (false, eval e X.env) :: starEach [] X.env := by rfl) (hpl : (backTo pos (starEach [] X.env)).any (·.1) = false := by rfl) :
    PS X (.Raise (some (.Call (.Name x p) [e] [] pos)) none pos2) (tRaiseX C te W f) := by
  obtain ⟨fd, ps, Fo, b⟩ := F
  exact ps_raise hc tk (pmk_oex T.oc T.ini T.tyI Fo (hr.mono hk) b .nil L2.pass0 hg hm (pa_cons he pa_nil hst) hdb hst hpl)
end
end
end Hf
end
section
set_option maxHeartbeats 4000000
/-! D4: a machine is made. -/
namespace Hf
open PySem PySem.Spec PyProof.Rows L2
def rLenS (K : Fg) : List V → Hp → VK → Prop := fun xs H Q => ∃ p ys, xs = [V.ref p] ∧ (SqL K H p ys ∨ SqT K H p ys) ∧ Q (.int (List.length ys)) H
def rTupOf (K : Fg) : List V → Hp → VK → Prop := fun xs H Q => ∃ p ys, xs = [V.ref p] ∧ ((SqL K H p ys ∧ ∀ l, H l = none → Q (.ref l) (upd H l (.tup ys))) ∨ (SqT K H p ys ∧ Q (.ref p) H))
abbrev Specs : Type := List (Str × Int × Int × Int)
theorem firstBad_ok : ∀ {l : Specs}, (∀ q ∈ l, inB (some q.2.1) q.2.2.1 q.2.2.2 = true) → firstBad l = none
  | [], _ => rfl
  | (n, v, a, b) :: r, h => by
    show (if inB (some v) a b = true then firstBad r else some n) = none
    rw [if_pos (h (n, v, a, b) List.mem_cons_self)]
    exact firstBad_ok fun q hq => h q (List.mem_cons_of_mem _ hq)
theorem firstBad_at : ∀ {l : Specs} {i : Nat} {q : Str × Int × Int × Int}, (∀ j q, j < i → l[j]? = some q → inB (some q.2.1) q.2.2.1 q.2.2.2 = true) → l[i]? = some q → inB (some q.2.1) q.2.2.1 q.2.2.2 = false → firstBad l = some q.1
  | [], i, q, _, e, _ => by
    cases i <;> cases e
  | (n, v, a, b) :: r, 0, q, _, e, hb => by
    cases e
    show (if inB (some v) a b = true then firstBad r else some n) = some n
    rw [if_neg (by
      rw [show inB (some v) a b = false from hb]
      exact Bool.false_ne_true)]
  | (n, v, a, b) :: r, i + 1, q, h, e, hb => by
    show (if inB (some v) a b = true then firstBad r else some n) = some q.1
    rw [if_pos (h 0 (n, v, a, b) (Nat.succ_pos i) rfl)]
    exact firstBad_at (i := i) (fun j q hj ej => h (j + 1) q (Nat.succ_lt_succ hj) ej) e hb
/-- the machine s stands at x -/
def MachAt (K : Fg) (H : Hp) (x : Addr) (s : Sett) : Prop := ∃ dx t, H x = some (.ins (cM K) dx [("settings", .ref t)]) ∧ Tp H (.ref t) (setD s)
/-- what a fault may be -/
def FaultOk (s : Sett) : Prop := s.fault = none ∨ ∃ x, s.fault = some x ∧ x ∈ faults
def specs (s : Sett) : Specs := [("pages", s.pages, 1, 64), ("batch", s.batch, 1, 8), ("spare", s.spare, 0, 8), ("slots", s.slots, 1, 8), ("stops", s.stops, 0, 6)]
def spMInit (K : Fg) : Sp := fun vs H Q E => ∃ x dx lc lt s ths, vs = [.ref x, .int (Sett.sockets s), .ref lc, .ref lt, .int s.pages, .int s.batch, .int s.spare, .int s.slots, .int s.stops, optV s.fault] ∧
  H x = some (.ins (cM K) dx []) ∧ H lc = some (.lst (s.classes.map .int)) ∧ H lt = some (.lst ths) ∧ Paired (ThR H) ths s.threads ∧ s.classes.length ≤ 100000 ∧ s.threads.length ≤ 100000 ∧ (∀ t ∈ s.threads, ThZ t) ∧ FaultOk s ∧
  (match machineErr s with
    | some nm => ∀ d H', ExtB x H H' → H' d = some (.xd [("name", .str nm)]) → E (.ref (cI K)) (some d) H'
    | none => ∀ H', ExtB x H H' → MachAt K H' x s → Q .non H')
section
variable {P : Program} {w : World} {K : Fg} {mg : Str → Option Value} {base : Heap}
theorem scMInit : FnScope ["self", "sockets", "classes", "threads", "pages", "batch", "spare", "slots", "stops", "fault", "is_slots", "most", "name", "value", "least", "limit", "programs", "socket", "program", "thread"] ["self", "sockets", "classes", "threads", "pages", "batch", "spare", "slots", "stops", "fault"] (defScope sMInit) := ⟨rfl, rfl, rfl, by decide +kernel, rfl, by decide +kernel, by decide +kernel⟩
theorem ok_MInit (T : Txt K mg w) {f : Addr} {fd : FuncData} (F : FunD K "__init__" "Machine.__init__" (defArgs sMInit) (defBody sMInit) (defScope sMInit) [] kwM f fd) : FnOk P w K mg base (L2.CX P w) 6 f fd ["self", "sockets", "classes", "threads", "pages", "batch", "spare", "slots", "stops", "fault"] (spMInit K) := by
  refine F.ok scMInit (fun vs H Q E h => ?_) (fun cdv A outer s H vs Q E hr h => ?_)
  · obtain ⟨x, dx, lc, lt, s, ths, rfl, _⟩ := h
    rfl
  · obtain ⟨x, dx, lc, lt, z, ths, rfl, hx, hc, ht, hp, zc, zt, zz, hf, k⟩ := h
    have tk : Takes (cxOf (L2.CX P w) P w K mg base ["self", "sockets", "classes", "threads", "pages", "batch", "spare", "slots", "stops", "fault", "is_slots", "most", "name", "value", "least", "limit", "programs", "socket", "program", "thread"] "Machine.__init__" (defScope sMInit) f cdv A outer s H E) (fun cls d _ H => E cls d H) := takes_of rfl rfl rfl rfl
    refine ⟨_, (pss_cons (ps_if (pt_not (pt_val (C8.pe_c (c_between T) hr (by decide) (by rfl) (pa_cons (pv 1) (pa_cons pe_int (pa_cons (C8.pe_gc (by rfl) (cn T "MAX_SOCKETS" 4)) pa_nil)))))) (pss_one (ps_raiseX (by rfl) T.xI (f_IM T) hr (by decide) tk (by rfl) (T.glo "InvalidMachine" (by decide +kernel)) pe_str)) pss_nil)
      (pss_cons (ps_if (pt_not (pt_val (C8.pe_c (c_classes T) hr (by decide) (by rfl) (pa_cons (pv 2) pa_nil)))) (pss_one (ps_raiseX (by rfl) T.xI (f_IM T) hr (by decide) tk (by rfl) (T.glo "InvalidMachine" (by decide +kernel)) pe_str)) pss_nil)
      (pss_cons (ps_set (i := 10) scMInit.nd (by rfl) (by first | exact Or.inl rfl | exact Or.inr rfl) (C8.pe_c (c_between T) hr (by decide) (by rfl) (pa_cons (pv 7) (pa_cons pe_int (pa_cons (C8.pe_gc (by rfl) (cn T "MAX_SLOTS" 8)) pa_nil)))))
      (C8.pss_cut (ps_set (i := 11) scMInit.nd (by rfl) (by first | exact Or.inl rfl | exact Or.inr rfl) (pe_ifExp (pt_val (pv 10)) (pv 7) (C8.pe_gc (by rfl) (cn T "MAX_SLOTS" 8))))
      (pss_cons (ps_if (PW.pt (pw_or (pt_not (pt_val (C8.pe_c (c_isRow T) hr (by decide) (by rfl) (pa_cons (pv 3) pa_nil)))) (pw_or1 (pt_not (pt_chain op_le op_le pe_int (pe_callB call_len_seq (by rfl) (fr T "len") boot_len (pa_cons (pv 3) pa_nil)) (C8.pe_gc (by rfl) (cn T "MAX_THREADS" 6))))))) (pss_one (ps_raiseX (by rfl) T.xI (f_IM T) hr (by decide) tk (by rfl) (T.glo "InvalidMachine" (by decide +kernel)) pe_str)) pss_nil)
      (pss_cons (ps_if (pt_not (pt_val (pe_callB (cr_all (by rfl)) (by rfl) (fr T "all") boot_all (pa_cons (pe_lc (own := [("thread", 19)]) (g := (gName 19)) (te := tCall spThread [] C8.E0 (tCons (tVar 19) (tCons (tVar 1) (tCons (tCB (rLenS K) (tCons (tVar 2) tNil)) (tCons (tVar 11) tNil))))) (by rfl) scMInit.nd (pi_list (pv 3)) (blkOk_by (N := ["self", "sockets", "classes", "threads", "pages", "batch", "spare", "slots", "stops", "fault", "is_slots", "most", "name", "value", "least", "limit", "programs", "socket", "program", "thread"]) (sc := defScope sMInit) (by decide +kernel)) (fun _ _ _ _ _ => by exact (pg_name (i := 19) scMInit.nd (by rfl) (Or.inl (by rfl)))) (fun _ _ _ _ _ => by exact pts_nil) (fun _ _ _ _ _ => by exact (C8.pe_c (c_thread T) hr (by decide) (by rfl) (pa_cons (pv 19) (pa_cons (pv 1) (pa_cons (pe_callB call_len_seq (by rfl) (fr T "len") boot_len (pa_cons (pv 2) pa_nil)) (pa_cons (pv 11) pa_nil))))))) pa_nil)))) (pss_one (ps_raiseX (by rfl) T.xI (f_IM T) hr (by decide) tk (by rfl) (T.glo "InvalidMachine" (by decide +kernel)) pe_str)) pss_nil)
      (C8.pss_cut (ps_for (passes_of rfl) (by rfl) (pi_list (pe_lst (pa_cons (pe_tup (pa_cons pe_str (pa_cons (pv 4) (pa_cons pe_int (pa_cons (C8.pe_gc (by rfl) (cn T "MAX_PAGES" 64)) pa_nil))))) (pa_cons (pe_tup (pa_cons pe_str (pa_cons (pv 5) (pa_cons pe_int (pa_cons (C8.pe_gc (by rfl) (cn T "MAX_BATCH" 8)) pa_nil))))) (pa_cons (pe_tup (pa_cons pe_str (pa_cons (pv 6) (pa_cons pe_int (pa_cons (C8.pe_gc (by rfl) (cn T "MAX_SPARE" 8)) pa_nil))))) (pa_cons (pe_tup (pa_cons pe_str (pa_cons (pv 7) (pa_cons pe_int (pa_cons (C8.pe_gc (by rfl) (cn T "MAX_SLOTS" 8)) pa_nil))))) (pa_cons (pe_tup (pa_cons pe_str (pa_cons (pv 8) (pa_cons pe_int (pa_cons (C8.pe_gc (by rfl) (cn T "MAX_STOPS" 6)) pa_nil))))) pa_nil))))))) (pg_tup (by rfl) (pgs_cons (pg_name (i := 12) scMInit.nd (by rfl) (Or.inl (by rfl))) (pgs_cons (pg_name (i := 13) scMInit.nd (by rfl) (Or.inl (by rfl))) (pgs_cons (pg_name (i := 14) scMInit.nd (by rfl) (Or.inl (by rfl))) (pgs_cons (pg_name (i := 15) scMInit.nd (by rfl) (Or.inl (by rfl))) pgs_nil))))) (pss_one (ps_if (pt_not (pt_val (C8.pe_c (c_between T) hr (by decide) (by rfl) (pa_cons (pv 13) (pa_cons (pv 14) (pa_cons (pv 15) pa_nil)))))) (pss_one (ps_raiseX (by rfl) T.xI (f_IM T) hr (by decide) tk (by rfl) (T.glo "InvalidMachine" (by decide +kernel)) (pv 12))) pss_nil)))
      (C8.pss_cut (ps_if (PW.pt (pw_and (pt_cmp (pc_notN (pv 9))) (pw_and1 (PW.pt (pw_or (pt_not (pt_val (pe_callB call_isi (by rfl) (fr T "isinstance") boot_isinstance (pa_cons (pv 9) (pa_cons (pe_ty (by rfl) (fr T "str") boot_str) pa_nil))))) (pw_or1 (pt_cmpR op_notIn_seq (pv 9) (pe_tup (pa_cons pe_str (pa_cons pe_str (pa_cons pe_str pa_nil)))) (by with_unfolding_all rfl)))))))) (pss_one (ps_raiseX (by rfl) T.xI (f_IM T) hr (by decide) tk (by rfl) (T.glo "InvalidMachine" (by decide +kernel)) pe_str)) pss_nil)
      (pss_cons (ps_set (i := 16) scMInit.nd (by rfl) (by first | exact Or.inl rfl | exact Or.inr rfl) (pe_callTy call_tuple_of (by rfl) (fr T "tuple") boot_tuple (pa_cons (pe_lc (own := [("socket", 17), ("program", 18)]) (g := (gTup K 2 (gCons (gName 17) (gCons (gName 18) gNil)))) (te := tTup (tCons (tVar 17) (tCons (tCB (rTupOf K) (tCons (tVar 18) tNil)) tNil))) (by rfl) scMInit.nd (pi_list (pv 3)) (blkOk_by (N := ["self", "sockets", "classes", "threads", "pages", "batch", "spare", "slots", "stops", "fault", "is_slots", "most", "name", "value", "least", "limit", "programs", "socket", "program", "thread"]) (sc := defScope sMInit) (by decide +kernel)) (fun _ _ _ _ _ => by exact (pg_tup (by rfl) (pgs_cons (pg_name (i := 17) scMInit.nd (by rfl) (Or.inl (by rfl))) (pgs_cons (pg_name (i := 18) scMInit.nd (by rfl) (Or.inl (by rfl))) pgs_nil)))) (fun _ _ _ _ _ => by exact pts_nil) (fun _ _ _ _ _ => by exact (pe_tup (pa_cons (pv 17) (pa_cons (pe_callTy call_tuple_of (by rfl) (fr T "tuple") boot_tuple (pa_cons (pv 18) pa_nil)) pa_nil))))) pa_nil)))
      (pss_one (ps_fld (pv 0) (pe_tup (pa_cons (pv 1) (pa_cons (pe_callTy call_tuple_of (by rfl) (fr T "tuple") boot_tuple (pa_cons (pv 2) pa_nil)) (pa_cons (pv 16) (pa_cons (pv 4) (pa_cons (pv 5) (pa_cons (pv 6) (pa_cons (pv 7) (pa_cons (pv 8) (pa_cons (pv 9) pa_nil)))))))))) (by rfl)))))))))))), ?_⟩
    have kerr : ∀ nm, machineErr z = some nm → ∀ d H', ExtB x H H' → H' d = some (.xd [("name", .str nm)]) → E (.ref (cI K)) (some d) H' := fun nm e => by
      rw [e] at k
      exact k
    have kok : machineErr z = none → ∀ H', ExtB x H H' → MachAt K H' x z → Q .non H' := fun e => by
      rw [e] at k
      exact k
    clear k
    have up : ∀ {b : Bool}, ¬ (!b) = true → b = true := fun {b} h => by
      cases b with
      | true => rfl
      | false => exact absurd rfl h
    have dn : ∀ {b : Bool}, (!b) = true → b = false := fun {b} h => by
      cases b with
      | false => rfl
      | true => cases h
    refine ⟨_, rfl, some z.sockets, 1, 4, rfl, _, rfl, ite2 (fun q => mk_err fun d H' x' e' => kerr _ ?_ d H' (ExtB.of x') e') (fun q => ?_)⟩
    · unfold machineErr
      rw [if_pos (dn q)]
    have c1 := up q
    clear q
    refine ⟨_, rfl, lc, z.classes, rfl, hc, zc, fun H1 x1 => ⟨_, rfl, ite2 (fun q => mk_err fun d H' x' e' => kerr _ ?_ d H' (ExtB.of (Ext.trans x1 x')) e') (fun q => ?_)⟩⟩
    · unfold machineErr
      rw [if_neg (by rw [c1]; decide), if_pos (dn q)]
    have c2 := up q
    clear q
    refine ⟨_, rfl, some z.slots, 1, 8, rfl, ?_⟩
    refine ⟨fun σ' H' => H' = H1 ∧ σ' = [some (.ref x), some (.int z.sockets), some (.ref lc), some (.ref lt), some (.int z.pages), some (.int z.batch), some (.int z.spare), some (.int z.slots), some (.int z.stops), some (optV z.fault), some (.bl (inB (some z.slots) 1 8)), some (.int (most8 z.slots)), none, none, none, none, none, none, none, none], ?_, ?_⟩
    · refine ⟨_, rfl, _, rfl, ite2 (fun q => ⟨_, rfl, rfl, ?_⟩) (fun q => ⟨rfl, ?_⟩)⟩
      · unfold most8
        rw [if_pos q]
        rfl
      · unfold most8
        rw [if_neg q]
        rfl
    rintro σ' H' ⟨rfl, rfl⟩
    generalize hm : most8 z.slots = m8
    have el : ths.length = z.threads.length := hp.length
    have bad : ¬ (1 ≤ z.threads.length ∧ z.threads.length ≤ 6) → machineErr z = some ("threads" : Str) := fun h => by
      unfold machineErr
      rw [if_neg (by rw [c1]; decide), if_neg (by rw [c2]; decide), if_pos h]
    refine ⟨_, rfl, lt, rfl, .inl ⟨_, x1 _ _ ht⟩, fun H2 x2' => ⟨_, rfl, itF (by decide) ?_⟩⟩
    have x2 := Ext.trans x1 x2'
    clear x2'
    refine ⟨_, rfl, lt, _, rfl, .inl (SqL.of (x2 _ _ ht)), _, _, rfl, rfl, _, rfl, ite2 (fun q => ⟨_, _, rfl, rfl, _, rfl, ite2 (fun q2 => mk_err fun d H' x' e' => kerr _ (bad fun y => ?_) d H' (ExtB.of (Ext.trans x2 x')) e') (fun q2 => ?_)⟩) (fun q => ⟨_, rfl, itT rfl (mk_err fun d H' x' e' => kerr _ (bad fun y => ?_) d H' (ExtB.of (Ext.trans x2 x')) e')⟩)⟩
    · have y2 := of_decide_eq_false (dn q2)
      omega
    rotate_left
    · refine q (decide_eq_true ?_)
      omega
    have c3 : 1 ≤ z.threads.length ∧ z.threads.length ≤ 6 := by
      have y1 := of_decide_eq_true q
      have y2 := of_decide_eq_true (up q2)
      omega
    clear q q2 bad
    refine ⟨_, rfl, lt, rfl, ⟨_, SqL.of (x2 _ _ ht)⟩, fun D hD => ?_⟩
    refine lc_ext (walk_list (K := K) (a := lt) (xs := ths)) (fun i _ y => ∃ t, z.threads[i]? = some t ∧ y = .bl (threadB z.sockets z.classes.length m8 t)) (fun _ _ _ _ _ h => h) hD (by omega) (fun H' x => SqL.of (x _ _ (x2 _ _ ht))) ?_ ?_
    · rintro i y H3 H4 C hi x3 ⟨rfl, ex⟩ hC
      have hi2 : i < z.threads.length := by omega
      have et : z.threads[i]? = some (z.threads[i]'hi2) := List.getElem?_eq_getElem hi2
      refine ⟨rfl, _, rfl, _, rfl, _, rfl, lc, _, rfl, .inl (SqL.of (x3 _ _ (x2 _ _ hc))), _, rfl, _, _, _, _, _, rfl, (paired_get hp ex et).ext (Ext.trans x2 x3), zz _ (List.mem_of_getElem? et), fun H' x4 => hC _ _ x4 ⟨_, et, ?_⟩⟩
      rw [List.length_map]
    intro H3 zs x3' hD3 hl3 hr3
    have x3 := Ext.trans x2 x3'
    clear x3'
    have ez : zs = z.threads.map fun t => V.bl (threadB z.sockets z.classes.length m8 t) := list_map (by omega) fun i y e => hr3 i y e
    have e4 : ∀ b, z.threads.all (threadB z.sockets z.classes.length m8) = b → machineErr z = (if b = false then some ("threads" : Str) else firstBad (specs z)) := fun b e => by
      unfold machineErr
      rw [if_neg (by rw [c1]; decide), if_neg (by rw [c2]; decide), if_neg (by exact fun y => y c3), hm, e]
      rfl
    refine ⟨D, z.threads.map (threadB z.sockets z.classes.length m8), rfl, SqL.of (by rw [hD3, ez, List.map_map] <;> rfl), _, rfl, ?_⟩
    rw [List.all_map]
    refine ite2 (fun q => mk_err fun d H' x' e' => kerr _ ?_ d H' (ExtB.of (Ext.trans x3 x')) e') (fun q => ?_)
    · rw [e4 false (dn q)] <;> rfl
    have e5 : machineErr z = firstBad (specs z) := e4 true (up q)
    clear q e4 hr3 ez hl3 hD3
    refine ⟨fun σ' H' => Ext H H' ∧ (∃ w1 w2 w3 w4, σ' = [some (.ref x), some (.int z.sockets), some (.ref lc), some (.ref lt), some (.int z.pages), some (.int z.batch), some (.int z.spare), some (.int z.slots), some (.int z.stops), some (optV z.fault), some (.bl (inB (some z.slots) 1 8)), some (.int m8), w1, w2, w3, w4, none, none, none, none]) ∧ ∀ q ∈ specs z, inB (some q.2.1) q.2.2.1 q.2.2.2 = true, ?_, ?_⟩
    · -- the five settings
      refine ⟨_, rfl, by show 4 ≤ sizeLine; decide, fun p0 n0 => ?_⟩
      have y0 : Ext H3 (upd H3 p0 (.tup [.str "pages", .int z.pages, .int 1, .int 64])) := Ext.new Ext.rfl' n0
      have t0 : (upd H3 p0 (.tup [.str "pages", .int z.pages, .int 1, .int 64])) p0 = some (.tup [.str "pages", .int z.pages, .int 1, .int 64]) := upd_same
      generalize upd H3 p0 (.tup [.str "pages", .int z.pages, .int 1, .int 64]) = G0 at y0 t0 ⊢
      refine ⟨_, rfl, by show 4 ≤ sizeLine; decide, fun p1 n1 => ?_⟩
      have y1 : Ext G0 (upd G0 p1 (.tup [.str "batch", .int z.batch, .int 1, .int 8])) := Ext.new Ext.rfl' n1
      have t1 : (upd G0 p1 (.tup [.str "batch", .int z.batch, .int 1, .int 8])) p1 = some (.tup [.str "batch", .int z.batch, .int 1, .int 8]) := upd_same
      generalize upd G0 p1 (.tup [.str "batch", .int z.batch, .int 1, .int 8]) = G1 at y1 t1 ⊢
      refine ⟨_, rfl, by show 4 ≤ sizeLine; decide, fun p2 n2 => ?_⟩
      have y2 : Ext G1 (upd G1 p2 (.tup [.str "spare", .int z.spare, .int 0, .int 8])) := Ext.new Ext.rfl' n2
      have t2 : (upd G1 p2 (.tup [.str "spare", .int z.spare, .int 0, .int 8])) p2 = some (.tup [.str "spare", .int z.spare, .int 0, .int 8]) := upd_same
      generalize upd G1 p2 (.tup [.str "spare", .int z.spare, .int 0, .int 8]) = G2 at y2 t2 ⊢
      refine ⟨_, rfl, by show 4 ≤ sizeLine; decide, fun p3 n3 => ?_⟩
      have y3 : Ext G2 (upd G2 p3 (.tup [.str "slots", .int z.slots, .int 1, .int 8])) := Ext.new Ext.rfl' n3
      have t3 : (upd G2 p3 (.tup [.str "slots", .int z.slots, .int 1, .int 8])) p3 = some (.tup [.str "slots", .int z.slots, .int 1, .int 8]) := upd_same
      generalize upd G2 p3 (.tup [.str "slots", .int z.slots, .int 1, .int 8]) = G3 at y3 t3 ⊢
      refine ⟨_, rfl, by show 4 ≤ sizeLine; decide, fun p4 n4 => ?_⟩
      have y4 : Ext G3 (upd G3 p4 (.tup [.str "stops", .int z.stops, .int 0, .int 6])) := Ext.new Ext.rfl' n4
      have t4 : (upd G3 p4 (.tup [.str "stops", .int z.stops, .int 0, .int 6])) p4 = some (.tup [.str "stops", .int z.stops, .int 0, .int 6]) := upd_same
      generalize upd G3 p4 (.tup [.str "stops", .int z.stops, .int 0, .int 6]) = G4 at y4 t4 ⊢
      refine ⟨by show 5 ≤ sizeLine; decide, fun l nl => ?_⟩
      have y5 : Ext G4 (upd G4 l (.lst [V.ref p0, V.ref p1, V.ref p2, V.ref p3, V.ref p4])) := Ext.new Ext.rfl' nl
      have t5 : (upd G4 l (.lst [V.ref p0, V.ref p1, V.ref p2, V.ref p3, V.ref p4])) l = some (.lst [V.ref p0, V.ref p1, V.ref p2, V.ref p3, V.ref p4]) := upd_same
      generalize upd G4 l (.lst [V.ref p0, V.ref p1, V.ref p2, V.ref p3, V.ref p4]) = G5 at y5 t5 ⊢
      have s4 := y5
      have s3 := Ext.trans y4 s4
      have s2 := Ext.trans y3 s3
      have s1 := Ext.trans y2 s2
      have s0 := Ext.trans y1 s1
      have x5 : Ext H G5 := Ext.trans x3 (Ext.trans y0 s0)
      have hS : ∀ (i : Nat) (v : V), [V.ref p0, V.ref p1, V.ref p2, V.ref p3, V.ref p4][i]? = some v → ∃ p q, v = .ref p ∧ (specs z)[i]? = some q ∧ G5 p = some (.tup [.str q.1, .int q.2.1, .int q.2.2.1, .int q.2.2.2]) := fun i v e => by
        match i, e with
        | 0, e => cases e; exact ⟨p0, _, rfl, rfl, s0 _ _ t0⟩
        | 1, e => cases e; exact ⟨p1, _, rfl, rfl, s1 _ _ t1⟩
        | 2, e => cases e; exact ⟨p2, _, rfl, rfl, s2 _ _ t2⟩
        | 3, e => cases e; exact ⟨p3, _, rfl, rfl, s3 _ _ t3⟩
        | 4, e => cases e; exact ⟨p4, _, rfl, rfl, s4 _ _ t4⟩
        | n + 5, e => cases e
      refine ⟨l, rfl, ⟨_, SqL.of t5⟩, for_list (K := K) (a := l) (xs := [V.ref p0, V.ref p1, V.ref p2, V.ref p3, V.ref p4]) (fun i σ' H' => Ext G5 H' ∧ (∃ w1 w2 w3 w4, σ' = [some (.ref x), some (.int z.sockets), some (.ref lc), some (.ref lt), some (.int z.pages), some (.int z.batch), some (.int z.spare), some (.int z.slots), some (.int z.stops), some (optV z.fault), some (.bl (inB (some z.slots) 1 8)), some (.int m8), w1, w2, w3, w4, none, none, none, none]) ∧ ∀ j q, j < i → (specs z)[j]? = some q → inB (some q.2.1) q.2.2.1 q.2.2.2 = true)
        ⟨Ext.rfl', ⟨_, _, _, _, rfl⟩, fun j q hj => absurd hj (Nat.not_lt_zero _)⟩ (fun i σ' H' _ h => SqL.of (h.1 _ _ t5)) ?_ ?_⟩
      · rintro i v σ' H' hi ⟨hE, ⟨w1, w2, w3, w4, rfl⟩, hj⟩
        obtain ⟨p, q, rfl, eq, hp⟩ := hS i v hi
        refine ⟨p, _, rfl, SqT.of (hE _ _ hp), rfl, _, _, rfl, _, _, rfl, _, _, rfl, _, _, rfl, rfl, ?_⟩
        refine ⟨_, rfl, _, rfl, _, rfl, some q.2.1, _, _, rfl, _, rfl, ite2 (fun b => ⟨_, rfl, mk_err fun d H'' x' e' => kerr _ ?_ d H'' (ExtB.of (Ext.trans (Ext.trans x5 hE) x')) e'⟩) (fun b => ⟨hE, ⟨_, _, _, _, rfl⟩, fun j q2 hj2 e2 => ?_⟩)⟩
        · rw [e5]
          exact firstBad_at hj eq (dn b)
        · rcases Nat.lt_or_ge j i with h | h
          · exact hj j q2 h e2
          · have e : j = i := by omega
            rw [e, eq] at e2
            cases e2
            exact up b
      · rintro σ' H' ⟨hE, hs, hj⟩
        refine ⟨Ext.trans x5 hE, hs, fun q hq => ?_⟩
        obtain ⟨j, hj1, e⟩ := List.getElem_of_mem hq
        exact hj j q hj1 (by rw [List.getElem?_eq_getElem hj1, e])
    rintro σ' H5 ⟨x5, ⟨w1, w2, w3, w4, rfl⟩, hall⟩
    have e6 : machineErr z = none := by
      rw [e5]
      exact firstBad_ok hall
    have kok := kok e6
    clear hall e5 kerr x3
    -- the fault, from here on in one heap
    refine ⟨fun σ' H' => Ext H H' ∧ σ' = [some (.ref x), some (.int z.sockets), some (.ref lc), some (.ref lt), some (.int z.pages), some (.int z.batch), some (.int z.spare), some (.int z.slots), some (.int z.stops), some (optV z.fault), some (.bl (inB (some z.slots) 1 8)), some (.int m8), w1, w2, w3, w4, none, none, none, none], ?_, ?_⟩
    · rcases hf with e | ⟨y, e, hy⟩
      · refine ⟨_, rfl, _, rfl, itF ?_ ⟨x5, rfl⟩⟩
        rw [e]
        decide
      · refine ⟨_, rfl, _, rfl, itT (by rw [e]; exact rfl) ?_⟩
        refine ⟨_, rfl, _, _, .type "str", _, true, rfl, .ty "str", ?_, kit_ty (by decide +kernel), _, rfl, itF (by decide) ?_⟩
        · rw [e]
          exact .base (.str y)
        refine ⟨_, rfl, by show 3 ≤ sizeLine; decide, fun p np => ?_⟩
        refine ⟨p, _, rfl, .inr (SqT.of upd_same), ?_, rfl, _, rfl, itF ?_ ⟨Ext.new x5 np, rfl⟩⟩
        · rw [e] <;> rfl
        · rw [e]
          have m : inV (V.str y) [V.str "take", V.str "fill", V.str "batches"] = true := by
            have hy2 : y = "take" ∨ y = "fill" ∨ y = "batches" := by
              simpa [faults] using hy
            rcases hy2 with w | w | w <;> rw [w] <;> decide +kernel
          show ¬ (!inV (V.str y) [V.str "take", V.str "fill", V.str "batches"]) = true
          rw [m]
          decide
    rintro σ' H6 ⟨x6, rfl⟩
    clear x5 H5
    -- programs
    have hp6 : ∀ (i : Nat) v t, ths[i]? = some v → z.threads[i]? = some t → ThR H6 v t := fun i v t e1 e2 => (paired_get hp e1 e2).ext x6
    refine ⟨_, rfl, lt, rfl, ⟨_, SqL.of (x6 _ _ ht)⟩, fun D hD => ?_⟩
    refine lc_ext (walk_list (K := K) (a := lt) (xs := ths)) (fun i H' y => ∃ t, z.threads[i]? = some t ∧ Tp H' y (thrD t)) (fun i Ha Hb y kk ⟨t, e, h⟩ => ⟨t, e, Tp.mono kk _ _ h⟩) hD (by omega) (fun H' x => SqL.of (x _ _ (x6 _ _ ht))) ?_ ?_
    · rintro i y H7 H8 C hi x7 ⟨rfl, ex⟩ hC
      have hi2 : i < z.threads.length := by omega
      have et : z.threads[i]? = some (z.threads[i]'hi2) := List.getElem?_eq_getElem hi2
      obtain ⟨p, l, vs, rfl, h1, h2, h3⟩ := (hp6 i _ _ ex et).ext x7
      refine ⟨p, _, rfl, SqT.of h1, rfl, _, _, rfl, _, _, rfl, rfl, rfl, ?_⟩
      refine ⟨_, rfl, _, rfl, l, vs, rfl, .inl ⟨SqL.of h2, fun q nq => ⟨by show 2 ≤ sizeLine; decide, fun r nr => hC _ _ (Ext.new (Ext.new Ext.rfl' nq) nr) ⟨_, et, ?_⟩⟩⟩⟩
      have k1 : TK H8 (upd H8 q (.tup vs)) := TK.of (Ext.new Ext.rfl' nq)
      have k2 : TK (upd H8 q (.tup vs)) (upd (upd H8 q (.tup vs)) r (.tup [V.int (z.threads[i]'hi2).1, .ref q])) := TK.of (Ext.new Ext.rfl' nr)
      exact .tup upd_same (.cons (.int _) (.cons (.tup (k2 _ _ upd_same) (TpL.mono (TK.trans k1 k2) _ _ h3)) .nil))
    intro H7 zs x7' hD7 hl7 hr7
    have x7 := Ext.trans x6 x7'
    have hz : TpL H7 zs (z.threads.map thrD) := TpL.of_get (by rw [List.length_map]; omega) fun i y d e1 e2 => by
      obtain ⟨t, et, h⟩ := hr7 i y e1
      rw [List.getElem?_map, et] at e2
      cases e2
      exact h
    refine ⟨D, zs, rfl, .inl ⟨SqL.of hD7, fun tp ntp => ?_⟩⟩
    have x8 : Ext H7 (upd H7 tp (.tup zs)) := Ext.new Ext.rfl' ntp
    have e8 : (upd H7 tp (.tup zs)) tp = some (.tup zs) := upd_same
    generalize upd H7 tp (.tup zs) = H8 at x8 e8 ⊢
    have hz8 := TpL.mono (TK.of x8) _ _ hz
    have x9 := Ext.trans x7 x8
    -- settings
    refine ⟨_, rfl, _, rfl, lc, _, rfl, .inl ⟨SqL.of (x9 _ _ hc), fun cp ncp => ?_⟩⟩
    have x10 : Ext H8 (upd H8 cp (.tup (z.classes.map .int))) := Ext.new Ext.rfl' ncp
    have e10 : (upd H8 cp (.tup (z.classes.map .int))) cp = some (.tup (z.classes.map .int)) := upd_same
    generalize upd H8 cp (.tup (z.classes.map .int)) = H10 at x10 e10 ⊢
    refine ⟨_, rfl, _, rfl, _, rfl, _, rfl, _, rfl, _, rfl, _, rfl, by show 9 ≤ sizeLine; decide, fun st nst => ?_⟩
    have x11 : Ext H10 (upd H10 st (.tup [V.int z.sockets, .ref cp, .ref tp, .int z.pages, .int z.batch, .int z.spare, .int z.slots, .int z.stops, optV z.fault])) := Ext.new Ext.rfl' nst
    have e11 : (upd H10 st (.tup [V.int z.sockets, .ref cp, .ref tp, .int z.pages, .int z.batch, .int z.spare, .int z.slots, .int z.stops, optV z.fault])) st = some (.tup [V.int z.sockets, .ref cp, .ref tp, .int z.pages, .int z.batch, .int z.spare, .int z.slots, .int z.stops, optV z.fault]) := upd_same
    generalize upd H10 st (.tup [V.int z.sockets, .ref cp, .ref tp, .int z.pages, .int z.batch, .int z.spare, .int z.slots, .int z.stops, optV z.fault]) = H11 at x11 e11 ⊢
    have x12 : Ext H H11 := Ext.trans x9 (Ext.trans x10 x11)
    have hx11 := x12 _ _ hx
    refine ⟨_, rfl, x, cM K, dx, [], rfl, hx11, T.mCls, T.mSet, by decide, kok _ (ExtB.put (ExtB.of x12)) ⟨dx, st, upd_same, ?_⟩⟩
    have kp : TK H11 (upd H11 x (.ins (cM K) dx (putF "settings" (.ref st) []))) := TK.put fun xs q => by
      rw [hx11] at q
      cases q
    have kt : TK H8 (upd H11 x (.ins (cM K) dx (putF "settings" (.ref st) []))) := TK.trans (TK.of (Ext.trans x10 x11)) kp
    refine .tup (kp _ _ e11) (.cons (.int _) (.cons (.tup (kp _ _ (x11 _ _ e10)) (TpL.ints _)) (.cons (.tup (kt _ _ e8) (TpL.mono kt _ _ hz8)) (.cons (.int _) (.cons (.int _) (.cons (.int _) (.cons (.int _) (.cons (.int _) (.cons ?_ .nil)))))))))
    cases z.fault with
    | none => exact .non
    | some y => exact .str y
/-- Machine(.., ..), all its keywords given -/
def mkKs : List Str := ["pages", "batch", "spare", "slots", "stops", "fault"]
def FnM1 (P : Program) (w : World) (K : Fg) (mg : Str → Option Value) (base : Heap) : Prop := ∃ (fd : FuncData) (ps : List Str), FnOk P w K mg base (L2.CX P w) 6 (mA "Machine" "__init__" K) fd ps (spMInit K) ∧ ∃ g : List Value → List Value → List Value, KBn K fd ps 4 mkKs g (fun vs zs => vs ++ zs)
theorem f_MInit (T : Txt K mg w) : FnM1 P w K mg base := by
  obtain ⟨fd, F⟩ := T.def_ 12 _ rfl
  refine ⟨fd, _, ok_MInit T F, ?_⟩
  have h : ∃ mv : List Value, KBn K fd ["self", "sockets", "classes", "threads", "pages", "batch", "spare", "slots", "stops", "fault"] 4 mkKs (fun us ws => us ++ ws) (fun vs zs => vs ++ zs) := by
    refine FunD.kbinds0 F 4 mkKs [] (fun vs _ zs => vs ++ zs) (by decide +kernel) (fun q hq => nomatch hq) (fun r1 _ r3 => r1.append r3) (fun D doc pm an cdv ct us mv ws h1 h2 h3 => ?_)
    match us, mv, ws, h1, h2, h3 with
    | [_, _, _, _], [], [_, _, _, _, _, _], _, _, _ => rfl
  obtain ⟨_, h⟩ := h
  exact ⟨_, h⟩
end
end Hf
end
section
set_option maxHeartbeats 4000000
/-! D5: a machine compared, read, written. -/
namespace Hf
open PySem PySem.Spec PyProof.Rows L2
/-- a def with its text: what a call by keywords asks -/
structure FnF (CX : CXT) (P : Program) (w : World) (K : Fg) (mg : Str → Option Value) (base : Heap) (k : Nat) (x : Str) (st : Stmt) (ps : List Str) (sp : Sp) : Prop where
  ex : ∃ fd : FuncData, FnP K x st (gA x K) fd ∧ FnOk P w K mg base CX k (gA x K) fd ps sp
section
variable {P : Program} {w : World} {K : Fg} {mg : Str → Option Value} {base : Heap} {x : Str} {st : Stmt} {i : Nat} {N ps : List Str} {k : Nat} {sp : Sp}
theorem fnF0_of (T : Txt K mg w) (hi : fns[i]? = some (dG x st)) (S : FnScope N ps (defScope st)) (len : ∀ vs H Q E, sp vs H Q E → vs.length = ps.length)
    (hbody : ∀ (f : Addr) (cdv : Value) (A : Around) (outer : List Env) (s : Shared) (H : Hp) (vs : List V) (Q : VK) (E : XK), Room k (A.deeper (envOfC x (defScope st) s.heap.objs.size f cdv)) → sp vs H Q E →
      ∃ t, PSs (cxOf L2.CX0 P w K mg base N x (defScope st) f cdv A outer s H E).nox (defBody st) t ∧ t { nx := fun _ H' => Q .non H', rt := Q } (L2.start N vs) H) : FnF L2.CX0 P w K mg base (k + 1) x st ps sp := by
  obtain ⟨fd, F⟩ := T.def_ i _ hi
  have F : FnP K x st (gA x K) fd := F
  refine ⟨fd, F, F.ok S len fun cdv A outer s H vs Q E hr h => ?_⟩
  obtain ⟨t, z, q⟩ := hbody (gA x K) cdv A outer s H vs Q E hr h
  exact ⟨t, z.nox, q⟩
theorem fnFX_of (T : Txt K mg w) (hi : fns[i]? = some (dG x st)) (S : FnScope N ps (defScope st)) (len : ∀ vs H Q E, sp vs H Q E → vs.length = ps.length)
    (hbody : ∀ (f : Addr) (cdv : Value) (A : Around) (outer : List Env) (s : Shared) (H : Hp) (vs : List V) (Q : VK) (E : XK), Room k (A.deeper (envOfC x (defScope st) s.heap.objs.size f cdv)) → sp vs H Q E →
      ∃ t, PSs (cxOf (L2.CX P w) P w K mg base N x (defScope st) f cdv A outer s H E) (defBody st) t ∧ t { nx := fun _ H' => Q .non H', rt := Q } (L2.start N vs) H) : FnF (L2.CX P w) P w K mg base (k + 1) x st ps sp := by
  obtain ⟨fd, F⟩ := T.def_ i _ hi
  have F : FnP K x st (gA x K) fd := F
  exact ⟨fd, F, F.ok S len fun cdv A outer s H vs Q E hr h => hbody (gA x K) cdv A outer s H vs Q E hr h⟩
theorem FnF.cal (h : FnF L2.CX0 P w K mg base k x st ps sp) (T : Txt K mg w) (hx : x ∈ glos)
    (hb : ∀ (kV doc pm : Value) (an : Option Addr) (cdv ct : Value) (us : List Value), us.length = ps.length → bindArgs (PySem.W.fnOf x x (defArgs st) (defBody st) (defScope st) .none kV doc pm an cdv ct) ⟨us, []⟩ = pure (ps.zip us)) : Cal0 P w K mg base k x sp := by
  obtain ⟨fd, F, O⟩ := h
  exact ⟨gA x K, fd, ps, [], O, T.glo x hx, F.kp, F.bindsN hb, .nil⟩
theorem FnF.calX (h : FnF (L2.CX P w) P w K mg base k x st ps sp) (T : Txt K mg w) (hx : x ∈ glos)
    (hb : ∀ (kV doc pm : Value) (an : Option Addr) (cdv ct : Value) (us : List Value), us.length = ps.length → bindArgs (PySem.W.fnOf x x (defArgs st) (defBody st) (defScope st) .none kV doc pm an cdv ct) ⟨us, []⟩ = pure (ps.zip us)) : CalX P w K mg base k x sp := by
  obtain ⟨fd, F, O⟩ := h
  exact ⟨gA x K, fd, ps, O, T.glo x hx, F.kp, F.bindsN hb⟩
end
/-- the two are the same machine -/
def SameM (K : Fg) : Addr → Addr → Hp → Prop := fun a b H => ∃ s, MachAt K H a s ∧ MachAt K H b s ∧ SeqAt.shaped (setD s) = true
theorem look1 (f : Str) (v : V) : List.lookup f [(f, v)] = some v := by
  show (match f == f with | true => some v | false => _) = some v
  rw [beq_self_eq_true]
section
variable {P : Program} {w : World} {K : Fg} {mg : Str → Option Value} {base : Heap}
theorem scMEq : FnScope ["self", "other"] ["self", "other"] (defScope sMEq) := ⟨rfl, rfl, rfl, by decide +kernel, rfl, by decide +kernel, by decide +kernel⟩
theorem f_MEq (T : Txt K mg w) : FnB L2.CX0 P w K mg base 1 (mA "Machine" "__eq__" K) (spEq (SameM K)) := by
  refine fnB_of (d := dM "Machine" "__eq__" "Machine.__eq__" sMEq) (i := 22) T rfl scMEq (fun _ _ _ _ _ _ us hl => match us, hl with | [_, _], _ => rfl) (fun vs H Q E h => ?_) (fun f cdv A outer s H vs Q E hr h => ?_)
  · obtain ⟨a, b, rfl, _⟩ := h
    rfl
  · obtain ⟨a, b, rfl, ⟨z, ⟨dx, t, ha, ht⟩, ⟨dy, u, hb, hu⟩, hs⟩, k⟩ := h
    refine ⟨_, PSs.nox (pss_cons (ps_if (pt_not (pt_val (pe_callB (C8.call_isC T.mIns) (by rfl) (fr T "isinstance") boot_isinstance (pa_cons (pv 1) (pa_cons (pe_gl (by rfl) (T.glo "Machine" (by decide +kernel))) pa_nil))))) (pss_one (ps_ret pe_bl)) pss_nil)
      (pss_one (ps_ret (pe_cmpR (op_eqD (room_u hr)) (pe_fld (pv 0) (by rfl)) (pe_fld (pv 1) (by rfl)) (nomark _))))), ?_⟩
    refine ⟨_, rfl, b, dy, _, rfl, hb, _, rfl, itF (by decide) ?_⟩
    refine ⟨_, rfl, a, cM K, dx, _, _, rfl, ha, T.mCls, T.mSet, look1 _ _, _, rfl, b, cM K, dy, _, _, rfl, hb, T.mCls, T.mSet, look1 _ _, setD z, setD z, Tp.dp _ _ ht, Tp.dp _ _ hu, hs, hs, ?_⟩
    rw [SeqAt.eqv_refl _ (SeqAt.canLay_of_shaped hs)]
    exact k _ Ext.rfl'
/-! ### the getters -/
def spGet (K : Fg) (i : Nat) : Sp := fun vs H Q _ => ∃ x dx t xs v, vs = [.ref x] ∧ H x = some (.ins (cM K) dx [("settings", .ref t)]) ∧ H t = some (.tup xs) ∧ xs[i]? = some v ∧ Q v H
theorem scG0 : FnScope ["self"] ["self"] (defScope (sMprop 0)) := ⟨rfl, rfl, rfl, by decide +kernel, rfl, by decide +kernel, by decide +kernel⟩
theorem f_G0 (T : Txt K mg w) : FnB L2.CX0 P w K mg base 1 (pA "Machine" "sockets" K) (spGet K 0) := by
  refine fnB_of (d := dP "Machine" "sockets" "Machine.sockets" (sMprop 0)) (i := 13) T rfl scG0 (fun _ _ _ _ _ _ us hl => match us, hl with | [_], _ => rfl) (fun vs H Q E h => ?_) (fun f cdv A outer s H vs Q E hr h => ?_)
  · obtain ⟨x, dx, t, xs, v, rfl, _⟩ := h
    rfl
  · obtain ⟨x, dx, t, xs, v, rfl, hx, ht, hv, k⟩ := h
    refine ⟨_, PSs.nox (pss_one (ps_ret (pe_ix ix_tup (pe_fld (pv 0) (by rfl)) pe_int (fun _ _ => rfl)))), ?_⟩
    exact ⟨_, rfl, x, cM K, dx, _, _, rfl, hx, T.mCls, T.mSet, look1 _ _, t, xs, 0, v, rfl, rfl, SqT.of ht, atI_nat (j := 0) hv, k⟩
theorem scG1 : FnScope ["self"] ["self"] (defScope (sMprop 1)) := ⟨rfl, rfl, rfl, by decide +kernel, rfl, by decide +kernel, by decide +kernel⟩
theorem f_G1 (T : Txt K mg w) : FnB L2.CX0 P w K mg base 1 (pA "Machine" "classes" K) (spGet K 1) := by
  refine fnB_of (d := dP "Machine" "classes" "Machine.classes" (sMprop 1)) (i := 14) T rfl scG1 (fun _ _ _ _ _ _ us hl => match us, hl with | [_], _ => rfl) (fun vs H Q E h => ?_) (fun f cdv A outer s H vs Q E hr h => ?_)
  · obtain ⟨x, dx, t, xs, v, rfl, _⟩ := h
    rfl
  · obtain ⟨x, dx, t, xs, v, rfl, hx, ht, hv, k⟩ := h
    refine ⟨_, PSs.nox (pss_one (ps_ret (pe_ix ix_tup (pe_fld (pv 0) (by rfl)) pe_int (fun _ _ => rfl)))), ?_⟩
    exact ⟨_, rfl, x, cM K, dx, _, _, rfl, hx, T.mCls, T.mSet, look1 _ _, t, xs, 1, v, rfl, rfl, SqT.of ht, atI_nat (j := 1) hv, k⟩
theorem scG2 : FnScope ["self"] ["self"] (defScope (sMprop 2)) := ⟨rfl, rfl, rfl, by decide +kernel, rfl, by decide +kernel, by decide +kernel⟩
theorem f_G2 (T : Txt K mg w) : FnB L2.CX0 P w K mg base 1 (pA "Machine" "threads" K) (spGet K 2) := by
  refine fnB_of (d := dP "Machine" "threads" "Machine.threads" (sMprop 2)) (i := 15) T rfl scG2 (fun _ _ _ _ _ _ us hl => match us, hl with | [_], _ => rfl) (fun vs H Q E h => ?_) (fun f cdv A outer s H vs Q E hr h => ?_)
  · obtain ⟨x, dx, t, xs, v, rfl, _⟩ := h
    rfl
  · obtain ⟨x, dx, t, xs, v, rfl, hx, ht, hv, k⟩ := h
    refine ⟨_, PSs.nox (pss_one (ps_ret (pe_ix ix_tup (pe_fld (pv 0) (by rfl)) pe_int (fun _ _ => rfl)))), ?_⟩
    exact ⟨_, rfl, x, cM K, dx, _, _, rfl, hx, T.mCls, T.mSet, look1 _ _, t, xs, 2, v, rfl, rfl, SqT.of ht, atI_nat (j := 2) hv, k⟩
theorem scG3 : FnScope ["self"] ["self"] (defScope (sMprop 3)) := ⟨rfl, rfl, rfl, by decide +kernel, rfl, by decide +kernel, by decide +kernel⟩
theorem f_G3 (T : Txt K mg w) : FnB L2.CX0 P w K mg base 1 (pA "Machine" "pages" K) (spGet K 3) := by
  refine fnB_of (d := dP "Machine" "pages" "Machine.pages" (sMprop 3)) (i := 16) T rfl scG3 (fun _ _ _ _ _ _ us hl => match us, hl with | [_], _ => rfl) (fun vs H Q E h => ?_) (fun f cdv A outer s H vs Q E hr h => ?_)
  · obtain ⟨x, dx, t, xs, v, rfl, _⟩ := h
    rfl
  · obtain ⟨x, dx, t, xs, v, rfl, hx, ht, hv, k⟩ := h
    refine ⟨_, PSs.nox (pss_one (ps_ret (pe_ix ix_tup (pe_fld (pv 0) (by rfl)) pe_int (fun _ _ => rfl)))), ?_⟩
    exact ⟨_, rfl, x, cM K, dx, _, _, rfl, hx, T.mCls, T.mSet, look1 _ _, t, xs, 3, v, rfl, rfl, SqT.of ht, atI_nat (j := 3) hv, k⟩
theorem scG4 : FnScope ["self"] ["self"] (defScope (sMprop 4)) := ⟨rfl, rfl, rfl, by decide +kernel, rfl, by decide +kernel, by decide +kernel⟩
theorem f_G4 (T : Txt K mg w) : FnB L2.CX0 P w K mg base 1 (pA "Machine" "batch" K) (spGet K 4) := by
  refine fnB_of (d := dP "Machine" "batch" "Machine.batch" (sMprop 4)) (i := 17) T rfl scG4 (fun _ _ _ _ _ _ us hl => match us, hl with | [_], _ => rfl) (fun vs H Q E h => ?_) (fun f cdv A outer s H vs Q E hr h => ?_)
  · obtain ⟨x, dx, t, xs, v, rfl, _⟩ := h
    rfl
  · obtain ⟨x, dx, t, xs, v, rfl, hx, ht, hv, k⟩ := h
    refine ⟨_, PSs.nox (pss_one (ps_ret (pe_ix ix_tup (pe_fld (pv 0) (by rfl)) pe_int (fun _ _ => rfl)))), ?_⟩
    exact ⟨_, rfl, x, cM K, dx, _, _, rfl, hx, T.mCls, T.mSet, look1 _ _, t, xs, 4, v, rfl, rfl, SqT.of ht, atI_nat (j := 4) hv, k⟩
theorem scG5 : FnScope ["self"] ["self"] (defScope (sMprop 5)) := ⟨rfl, rfl, rfl, by decide +kernel, rfl, by decide +kernel, by decide +kernel⟩
theorem f_G5 (T : Txt K mg w) : FnB L2.CX0 P w K mg base 1 (pA "Machine" "spare" K) (spGet K 5) := by
  refine fnB_of (d := dP "Machine" "spare" "Machine.spare" (sMprop 5)) (i := 18) T rfl scG5 (fun _ _ _ _ _ _ us hl => match us, hl with | [_], _ => rfl) (fun vs H Q E h => ?_) (fun f cdv A outer s H vs Q E hr h => ?_)
  · obtain ⟨x, dx, t, xs, v, rfl, _⟩ := h
    rfl
  · obtain ⟨x, dx, t, xs, v, rfl, hx, ht, hv, k⟩ := h
    refine ⟨_, PSs.nox (pss_one (ps_ret (pe_ix ix_tup (pe_fld (pv 0) (by rfl)) pe_int (fun _ _ => rfl)))), ?_⟩
    exact ⟨_, rfl, x, cM K, dx, _, _, rfl, hx, T.mCls, T.mSet, look1 _ _, t, xs, 5, v, rfl, rfl, SqT.of ht, atI_nat (j := 5) hv, k⟩
theorem scG6 : FnScope ["self"] ["self"] (defScope (sMprop 6)) := ⟨rfl, rfl, rfl, by decide +kernel, rfl, by decide +kernel, by decide +kernel⟩
theorem f_G6 (T : Txt K mg w) : FnB L2.CX0 P w K mg base 1 (pA "Machine" "slots" K) (spGet K 6) := by
  refine fnB_of (d := dP "Machine" "slots" "Machine.slots" (sMprop 6)) (i := 19) T rfl scG6 (fun _ _ _ _ _ _ us hl => match us, hl with | [_], _ => rfl) (fun vs H Q E h => ?_) (fun f cdv A outer s H vs Q E hr h => ?_)
  · obtain ⟨x, dx, t, xs, v, rfl, _⟩ := h
    rfl
  · obtain ⟨x, dx, t, xs, v, rfl, hx, ht, hv, k⟩ := h
    refine ⟨_, PSs.nox (pss_one (ps_ret (pe_ix ix_tup (pe_fld (pv 0) (by rfl)) pe_int (fun _ _ => rfl)))), ?_⟩
    exact ⟨_, rfl, x, cM K, dx, _, _, rfl, hx, T.mCls, T.mSet, look1 _ _, t, xs, 6, v, rfl, rfl, SqT.of ht, atI_nat (j := 6) hv, k⟩
theorem scG7 : FnScope ["self"] ["self"] (defScope (sMprop 7)) := ⟨rfl, rfl, rfl, by decide +kernel, rfl, by decide +kernel, by decide +kernel⟩
theorem f_G7 (T : Txt K mg w) : FnB L2.CX0 P w K mg base 1 (pA "Machine" "stops" K) (spGet K 7) := by
  refine fnB_of (d := dP "Machine" "stops" "Machine.stops" (sMprop 7)) (i := 20) T rfl scG7 (fun _ _ _ _ _ _ us hl => match us, hl with | [_], _ => rfl) (fun vs H Q E h => ?_) (fun f cdv A outer s H vs Q E hr h => ?_)
  · obtain ⟨x, dx, t, xs, v, rfl, _⟩ := h
    rfl
  · obtain ⟨x, dx, t, xs, v, rfl, hx, ht, hv, k⟩ := h
    refine ⟨_, PSs.nox (pss_one (ps_ret (pe_ix ix_tup (pe_fld (pv 0) (by rfl)) pe_int (fun _ _ => rfl)))), ?_⟩
    exact ⟨_, rfl, x, cM K, dx, _, _, rfl, hx, T.mCls, T.mSet, look1 _ _, t, xs, 7, v, rfl, rfl, SqT.of ht, atI_nat (j := 7) hv, k⟩
theorem scG8 : FnScope ["self"] ["self"] (defScope (sMprop 8)) := ⟨rfl, rfl, rfl, by decide +kernel, rfl, by decide +kernel, by decide +kernel⟩
theorem f_G8 (T : Txt K mg w) : FnB L2.CX0 P w K mg base 1 (pA "Machine" "fault" K) (spGet K 8) := by
  refine fnB_of (d := dP "Machine" "fault" "Machine.fault" (sMprop 8)) (i := 21) T rfl scG8 (fun _ _ _ _ _ _ us hl => match us, hl with | [_], _ => rfl) (fun vs H Q E h => ?_) (fun f cdv A outer s H vs Q E hr h => ?_)
  · obtain ⟨x, dx, t, xs, v, rfl, _⟩ := h
    rfl
  · obtain ⟨x, dx, t, xs, v, rfl, hx, ht, hv, k⟩ := h
    refine ⟨_, PSs.nox (pss_one (ps_ret (pe_ix ix_tup (pe_fld (pv 0) (by rfl)) pe_int (fun _ _ => rfl)))), ?_⟩
    exact ⟨_, rfl, x, cM K, dx, _, _, rfl, hx, T.mCls, T.mSet, look1 _ _, t, xs, 8, v, rfl, rfl, SqT.of ht, atI_nat (j := 8) hv, k⟩

/-! ### machine_text -/
theorem Ext.putN {H H' : Hp} {m : Addr} {o : HO} (x : Ext H H') (n : H m = none) : Ext H (upd H' m o) := fun b u e => by
  rw [upd_ne (ne_of_none e n)]
  exact x b u e
theorem js_get {σ : L2.St} {H : Hp} {x dx t : Addr} {xs : List V} {j : Nat} {i : Int} {a : Str} {Q : Str → Hp → Prop} (h0 : σ[0]? = some (some (.ref x))) (hx : H x = some (.ins (cM K) dx [("settings", .ref t)])) (ht : H t = some (.tup xs)) (hv : xs[j]? = some (.int i)) (sm : SmI i) (la : a.length ≤ 9)
    (k : Q (a ++ numS i) H) : tJs [tC (.str a), tFmt (tProp (cM K) (spGet K j) [] L2.E0 (tVar 0))] Str.empty σ H Q := by
  have e := sizeLine_eq
  refine ⟨_, rfl, ?_, _, h0, x, dx, _, rfl, hx, x, dx, t, xs, _, rfl, hx, ht, hv, .inr ⟨i, rfl, sm.log, _, rfl, ?_, ?_⟩⟩
  · rw [emp_app]
    omega
  · rw [emp_app]
    have := pre_len (a := a) la sm
    exact Nat.le_trans this (by omega)
  · show Q (Str.empty ++ a ++ numS i) H
    rw [emp_app]
    exact k
theorem paired_map {α : Type} {F : V → Str → Prop} {f : α → V} {g : α → Str} : ∀ {l : List α}, (∀ x ∈ l, F (f x) (g x)) → Paired F (l.map f) (l.map g)
  | [], _ => .nil
  | x :: r, h => .cons (h x List.mem_cons_self) (paired_map fun y hy => h y (List.mem_cons_of_mem _ hy))
theorem Tp.opt {H : Hp} {v : V} : ∀ {f : Option Str}, Tp H v (optD f) → v = optV f
  | none, h => by
    cases h
    rfl
  | some x, h => by
    cases h
    rfl
theorem Tp.set {H : Hp} {st : Addr} {z : Sett} (h : Tp H (.ref st) (setD z)) : ∃ cp tp ths, H st = some (.tup [.int z.sockets, .ref cp, .ref tp, .int z.pages, .int z.batch, .int z.spare, .int z.slots, .int z.stops, optV z.fault]) ∧
    H cp = some (.tup (z.classes.map .int)) ∧ H tp = some (.tup ths) ∧ TpL H ths (z.threads.map thrD) := by
  cases h with
  | tup e t =>
    cases t with
    | cons a1 t => cases t with
      | cons a2 t => cases t with
        | cons a3 t => cases t with
          | cons a4 t => cases t with
            | cons a5 t => cases t with
              | cons a6 t => cases t with
                | cons a7 t => cases t with
                  | cons a8 t => cases t with
                    | cons a9 t =>
                      cases t
                      cases a1
                      cases a4
                      cases a5
                      cases a6
                      cases a7
                      cases a8
                      rw [Tp.opt a9] at e
                      cases a2 with
                      | tup e2 t2 => cases a3 with
                        | tup e3 t3 =>
                          rw [TpL.ints_eq t2] at e2
                          exact ⟨_, _, _, e, e2, e3, t3⟩
theorem Tp.thr {H : Hp} {v : V} {t : Thr} (h : Tp H v (thrD t)) : ∃ p q vs, v = .ref p ∧ H p = some (.tup [.int t.1, .ref q]) ∧ H q = some (.tup vs) ∧ TpL H vs (t.2.map opD) := by
  cases h with
  | tup e t => cases t with
    | cons a1 t => cases t with
      | cons a2 t =>
        cases t
        cases a1
        cases a2 with
        | tup e2 t2 => exact ⟨_, _, _, rfl, e, e2, t2⟩
theorem sv_ints {ns : List Int} (h : ∀ i ∈ ns, SmI i) : Paired SV (ns.map V.int) (ns.map numS) := paired_map fun i hi => .inr ⟨i, rfl, (h i hi).log, rfl⟩
theorem sum7 {x : Str} {ns : List Int} (hx : x.length ≤ 7) (hn : ns.length ≤ 3) (h : ∀ i ∈ ns, SmI i) : ((x :: ns.map numS).map (·.length)).sum + (x :: ns.map numS).length ≤ 1000000 := by
  have z := sum_le (l := x :: ns.map numS) (k := 7) fun y hy => by
    rcases List.mem_cons.mp hy with e | e
    · rw [e]
      exact hx
    · exact nums_le h y e
  rw [List.length_cons, List.length_map] at z ⊢
  omega
def spMText (K : Fg) : Sp := fun vs H Q _ => ∃ x s, vs = [.ref x] ∧ MachAt K H x s ∧ Small s ∧ ∀ H', Ext H H' → Q (.str (Txt.join nl (rowsOf s))) H'
theorem scMText : FnScope ["machine", "lines", "socket", "program", "operation"] ["machine"] (defScope sMText) := ⟨rfl, rfl, rfl, by decide +kernel, rfl, by decide +kernel, by decide +kernel⟩
theorem f_mText (T : Txt K mg w) : FnF L2.CX0 P w K mg base 3 "machine_text" sMText ["machine"] (spMText K) := by
  refine fnF0_of (i := 23) T rfl scMText (fun vs H Q E h => ?_) (fun f cdv A outer s H vs Q E hr h => ?_)
  · obtain ⟨x, s, rfl, _⟩ := h
    rfl
  · obtain ⟨x, z, rfl, ⟨dx, st, hx, hst⟩, sm, k⟩ := h
    obtain ⟨_, _, F0, B0⟩ := f_G0 (P := P) (base := base) T
    obtain ⟨_, _, F1, B1⟩ := f_G1 (P := P) (base := base) T
    obtain ⟨_, _, F2, B2⟩ := f_G2 (P := P) (base := base) T
    obtain ⟨_, _, F3, B3⟩ := f_G3 (P := P) (base := base) T
    obtain ⟨_, _, F4, B4⟩ := f_G4 (P := P) (base := base) T
    obtain ⟨_, _, F5, B5⟩ := f_G5 (P := P) (base := base) T
    obtain ⟨_, _, F6, B6⟩ := f_G6 (P := P) (base := base) T
    obtain ⟨_, _, F7, B7⟩ := f_G7 (P := P) (base := base) T
    obtain ⟨_, _, F8, B8⟩ := f_G8 (P := P) (base := base) T
    refine ⟨_, (C8.pss_cut (ps_set (i := 1) scMText.nd (by rfl) (by first | exact Or.inl rfl | exact Or.inr rfl) (pe_lst (pa_cons (pe_joined (.cons pe_str (.cons (pe_fmt (pe_prop (pv 0) T.mCls (T.prop "sockets" (by decide +kernel)) (F0) (hr.mono (by decide)) B0 .nil L2.pass0 (by rfl))) .nil))) (pa_cons (C8.pe_c (c_lineText T) hr (by decide) (by rfl) (pa_cons (pe_tup (pa_cons pe_str (StX.pa_star (pe_prop (pv 0) T.mCls (T.prop "classes" (by decide +kernel)) (F1) (hr.mono (by decide)) B1 .nil L2.pass0 (by rfl)) pa_nil))) pa_nil)) (pa_cons (pe_joined (.cons pe_str (.cons (pe_fmt (pe_prop (pv 0) T.mCls (T.prop "pages" (by decide +kernel)) (F3) (hr.mono (by decide)) B3 .nil L2.pass0 (by rfl))) .nil))) pa_nil)))))
      (C8.pss_cut (ps_expr (pe_bm PySem.F.plainAttrs_list PySem.F.slot_list_extend PySem.F.type_list_extend mt_extend (pv 1) (pa_cons (pe_lst (pa_cons (pe_joined (.cons pe_str (.cons (pe_fmt (pe_prop (pv 0) T.mCls (T.prop "batch" (by decide +kernel)) (F4) (hr.mono (by decide)) B4 .nil L2.pass0 (by rfl))) .nil))) (pa_cons (pe_joined (.cons pe_str (.cons (pe_fmt (pe_prop (pv 0) T.mCls (T.prop "spare" (by decide +kernel)) (F5) (hr.mono (by decide)) B5 .nil L2.pass0 (by rfl))) .nil))) (pa_cons (pe_joined (.cons pe_str (.cons (pe_fmt (pe_prop (pv 0) T.mCls (T.prop "slots" (by decide +kernel)) (F6) (hr.mono (by decide)) B6 .nil L2.pass0 (by rfl))) .nil))) pa_nil)))) pa_nil)))
      (C8.pss_cut (ps_expr (pe_bm PySem.F.plainAttrs_list PySem.F.slot_list_append PySem.F.type_list_append mt_append (pv 1) (pa_cons (pe_joined (.cons pe_str (.cons (pe_fmt (pe_prop (pv 0) T.mCls (T.prop "stops" (by decide +kernel)) (F7) (hr.mono (by decide)) B7 .nil L2.pass0 (by rfl))) .nil))) pa_nil)))
      (C8.pss_cut (ps_if (pt_cmp (pc_notN (pe_prop (pv 0) T.mCls (T.prop "fault" (by decide +kernel)) (F8) (hr.mono (by decide)) B8 .nil L2.pass0 (by rfl)))) (pss_one (ps_expr (pe_bm PySem.F.plainAttrs_list PySem.F.slot_list_append PySem.F.type_list_append mt_append (pv 1) (pa_cons (pe_joined (.cons pe_str (.cons (pe_fmt (pe_prop (pv 0) T.mCls (T.prop "fault" (by decide +kernel)) (F8) (hr.mono (by decide)) B8 .nil L2.pass0 (by rfl))) .nil))) pa_nil)))) pss_nil)
      (C8.pss_cut (ps_for PassesOwn.never (by rfl) (pi_tup (pe_prop (pv 0) T.mCls (T.prop "threads" (by decide +kernel)) (F2) (hr.mono (by decide)) B2 .nil L2.pass0 (by rfl))) (pg_tup (by rfl) (pgs_cons (pg_name (i := 2) scMText.nd (by rfl) (Or.inl (by rfl))) (pgs_cons (pg_name (i := 3) scMText.nd (by rfl) (Or.inl (by rfl))) pgs_nil))) (C8.pss_cut (ps_expr (pe_bm PySem.F.plainAttrs_list PySem.F.slot_list_append PySem.F.type_list_append mt_append (pv 1) (pa_cons (pe_joined (.cons pe_str (.cons (pe_fmt (pv 2)) .nil))) pa_nil)))
      (pss_one (ps_expr (pe_bm PySem.F.plainAttrs_list PySem.F.slot_list_extend PySem.F.type_list_extend mt_extend (pv 1) (pa_cons (pe_lc (own := [("operation", 4)]) (g := (gName 4))  (by rfl) scMText.nd (pi_tup (pv 3)) (blkOk_by (N := ["machine", "lines", "socket", "program", "operation"]) (sc := defScope sMText) (by decide +kernel)) (fun _ _ _ _ _ => by exact (pg_name (i := 4) scMText.nd (by rfl) (Or.inl (by rfl)))) (fun _ _ _ _ _ => by exact pts_nil) (fun _ _ _ _ _ => by exact (C8.pe_c (c_lineText T) hr (by decide) (by rfl) (pa_cons (pv 4) pa_nil)))) pa_nil))))))
      (pss_one (ps_ret (pe_join pe_str (pv 1))))))))), ?_⟩
    obtain ⟨cp, tp, ths, hS, hC, hT, hts⟩ := hst.set
    have en : sizeLine = 16777216 := sizeLine_eq
    -- lines = [..]
    refine ⟨fun σ' H' => ∃ l, H l = none ∧ Ext H H' ∧ σ' = [some (.ref x), some (.ref l), none, none, none] ∧ H' l = some (.lst (((headRows z).take 3).map V.str)), ?_, ?_⟩
    · refine js_get rfl hx hS rfl sm.so (by decide +kernel) ?_
      refine ⟨_, rfl, x, dx, _, rfl, hx, x, dx, st, _, _, rfl, hx, hS, rfl, cp, _, rfl, .inl (SqT.of hC), by rw [List.append_nil, List.length_cons, List.length_map]; have := sm.cn; omega, fun p np => ?_⟩
      have x1 : Ext H (upd H p (.tup (.str "classes" :: (z.classes.map .int ++ [])))) := Ext.new Ext.rfl' np
      refine ⟨p, .str "classes" :: z.classes.map .int, "classes" :: z.classes.map numS, rfl, upd_same.trans (by rw [List.append_nil]), .cons (.inl rfl) (sv_ints sm.ci), by rw [List.length_cons, List.length_map]; have := sm.cn; omega, sum7 (by decide +kernel) sm.cn sm.ci, fun H2 x2 => ?_⟩
      have x3 := Ext.trans x1 x2
      refine js_get rfl (x3 _ _ hx) (x3 _ _ hS) rfl sm.pa (by decide +kernel) ⟨by show 3 ≤ sizeLine; omega, fun l nl => ?_⟩
      exact ⟨l, Ext.free x3 nl, Ext.new x3 nl, rfl, upd_same⟩
    rintro σ' H1 ⟨l, nl, x1, rfl, hl⟩
    -- lines.extend([..])
    refine ⟨fun σ' H' => Ext H H' ∧ σ' = [some (.ref x), some (.ref l), none, none, none] ∧ H' l = some (.lst (((headRows z).take 6).map V.str)), ?_, ?_⟩
    · refine ⟨_, rfl, .inl ⟨rfl, _, SqL.of hl⟩, ?_⟩
      refine js_get rfl (x1 _ _ hx) (x1 _ _ hS) rfl sm.ba (by decide +kernel) ?_
      refine js_get rfl (x1 _ _ hx) (x1 _ _ hS) rfl sm.sa (by decide +kernel) ?_
      refine js_get rfl (x1 _ _ hx) (x1 _ _ hS) rfl sm.sl (by decide +kernel) ⟨by show 3 ≤ sizeLine; omega, fun p np => ?_⟩
      refine ⟨l, p, _, _, rfl, rfl, (upd_ne (ne_of_none hl np)).trans hl, upd_same, by show 3 + 3 ≤ sizeLine; omega, ?_⟩
      exact ⟨Ext.putN (Ext.new x1 np) nl, rfl, upd_same⟩
    rintro σ' H2 ⟨x2, rfl, hl2⟩
    -- lines.append(..)
    refine ⟨fun σ' H' => Ext H H' ∧ σ' = [some (.ref x), some (.ref l), none, none, none] ∧ H' l = some (.lst ((headRows z).map V.str)), ?_, ?_⟩
    · refine ⟨_, rfl, .inl ⟨rfl, _, SqL.of hl2⟩, ?_⟩
      refine js_get rfl (x2 _ _ hx) (x2 _ _ hS) rfl sm.st (by decide +kernel) ?_
      exact ⟨l, _, _, rfl, rfl, hl2, by show 6 < sizeLine; omega, Ext.putN x2 nl, rfl, upd_same⟩
    rintro σ' H3 ⟨x3, rfl, hl3⟩
    -- the fault
    refine ⟨fun σ' H' => Ext H H' ∧ σ' = [some (.ref x), some (.ref l), none, none, none] ∧ H' l = some (.lst ((headRows z ++ faultRow z).map V.str)), ?_, ?_⟩
    · refine ⟨_, rfl, x, dx, _, rfl, x3 _ _ hx, x, dx, st, _, _, rfl, x3 _ _ hx, x3 _ _ hS, rfl, _, rfl, ?_⟩
      rcases sm.fa with e | ⟨y, e, hy⟩
      · refine itF (by rw [e]; decide) ⟨x3, rfl, ?_⟩
        have e2 : faultRow z = [] := by
          unfold faultRow
          rw [e]
        rw [e2, List.append_nil]
        exact hl3
      · have ly := faults_len hy
        have e2 : faultRow z = ["fault " ++ y] := by
          unfold faultRow
          rw [e]
        have lf : ("fault " : Str).length = 6 := by decide +kernel
        refine itT (by rw [e]; exact rfl) ⟨_, rfl, .inl ⟨rfl, _, SqL.of hl3⟩, ?_⟩
        refine ⟨_, rfl, by rw [emp_app]; omega, _, rfl, x, dx, _, rfl, x3 _ _ hx, x, dx, st, _, _, rfl, x3 _ _ hx, x3 _ _ hS, rfl, .inl ⟨y, by rw [e] <;> rfl, by omega, y, rfl, by rw [emp_app, app_len]; omega, ?_⟩⟩
        refine ⟨l, _, _, rfl, rfl, hl3, by show 7 < sizeLine; omega, Ext.putN x3 nl, rfl, ?_⟩
        rw [e2, List.map_append, emp_app]
        exact upd_same
    rintro σ' H4 ⟨x4, rfl, hl4⟩
    have lth : ths.length = z.threads.length := by rw [hts.length, List.length_map]
    have nrows := rowsOf_num sm
    have lall := rowsOf_len sm
    -- the threads
    refine ⟨fun σ' H' => Ext H H' ∧ (∃ w1 w2, σ' = [some (.ref x), some (.ref l), w1, w2, none]) ∧ H' l = some (.lst ((rowsOf z).map V.str)), ?_, ?_⟩
    · refine ⟨_, rfl, x, dx, _, rfl, x4 _ _ hx, x, dx, st, _, _, rfl, x4 _ _ hx, x4 _ _ hS, rfl, tp, rfl, ⟨_, SqT.of (x4 _ _ hT)⟩, ?_⟩
      refine for_tup (K := K) (a := tp) (xs := ths) (fun i σ' H' => Ext H H' ∧ (∃ w1 w2, σ' = [some (.ref x), some (.ref l), w1, w2, none]) ∧ H' l = some (.lst ((headRows z ++ faultRow z ++ (z.threads.take i).flatMap thRows).map V.str)))
        ⟨x4, ⟨_, _, rfl⟩, by rw [List.take_zero, List.flatMap_nil, List.append_nil]; exact hl4⟩ (fun i σ' H' _ h => SqT.of (h.1 _ _ hT)) ?_ ?_
      · rintro i v σ' H' hi ⟨x5, ⟨w1, w2, rfl⟩, hl5⟩
        obtain ⟨d, ed, hd⟩ := hts.get hi
        rw [List.getElem?_map] at ed
        obtain ⟨t, et, rfl⟩ := Option.map_eq_some_iff.mp ed
        obtain ⟨p, q, vs, rfl, h1, h2, h3⟩ := hd.thr
        have ht := sm.ti t (List.mem_of_getElem? et)
        have hi2 : i < z.threads.length := (List.getElem?_eq_some_iff.mp et).1
        have etake : (z.threads.take (i + 1)).flatMap thRows = (z.threads.take i).flatMap thRows ++ thRows t := by
          rw [List.take_succ, et, List.flatMap_append]
          show _ ++ (thRows t ++ []) = _
          rw [List.append_nil]
        have small : ∀ j, (headRows z ++ faultRow z ++ (z.threads.take j).flatMap thRows).length ≤ 40 := fun j => by
          have a := flat_len (f := thRows) (k := 6) (l := z.threads.take j) fun t ht => thRows_num (sm.ti t (List.mem_of_mem_take ht))
          have b := faultRow_num z
          have c : (headRows z).length = 7 := rfl
          have e1 : (z.threads.take j).length ≤ 4 := Nat.le_trans (List.length_take_le' _ _) sm.tn
          rw [List.length_append, List.length_append]
          omega
        refine ⟨p, _, rfl, SqT.of (x5 _ _ h1), rfl, _, _, rfl, _, _, rfl, rfl, ?_⟩
        refine ⟨fun σ' H' => Ext H H' ∧ σ' = [some (.ref x), some (.ref l), some (.int t.1), some (.ref q), none] ∧ H' l = some (.lst ((headRows z ++ faultRow z ++ (z.threads.take i).flatMap thRows ++ ["thread " ++ numS t.1]).map V.str)), ?_, ?_⟩
        · refine ⟨_, rfl, .inl ⟨rfl, _, SqL.of hl5⟩, ?_⟩
          have lt : ("thread " : Str).length = 7 := by decide +kernel
          refine ⟨_, rfl, by rw [emp_app]; omega, _, rfl, .inr ⟨t.1, rfl, ht.s.log, _, rfl, by rw [emp_app]; exact Nat.le_trans (pre_len (by omega) ht.s) (by omega), ?_⟩⟩
          refine ⟨l, _, _, rfl, rfl, hl5, by rw [List.length_map]; have := small i; omega, Ext.putN x5 nl, rfl, ?_⟩
          refine upd_same.trans (congrArg (fun z => some (HO.lst z)) ?_)
          simp only [emp_app, List.map_append, List.map_cons, List.map_nil]
        rintro σ' H6 ⟨x6, rfl, hl6⟩
        refine ⟨_, rfl, .inl ⟨rfl, _, SqL.of hl6⟩, ?_⟩
        refine ⟨_, rfl, q, rfl, ⟨_, SqT.of (x6 _ _ h2)⟩, fun D hD => ?_⟩
        have lvs : vs.length = t.2.length := by rw [h3.length, List.length_map]
        refine lc_ext (walk_tup (K := K) (a := q) (xs := vs)) (fun j _ y => ∃ o, t.2[j]? = some o ∧ y = .str (opRow o)) (fun _ _ _ _ _ h => h) hD (by have := ht.n; omega) (fun H' x => SqT.of (x _ _ (x6 _ _ h2))) ?_ ?_
        · rintro j y H7 H8 C hj x7 ⟨rfl, ey⟩ hC
          obtain ⟨d, ed, hd⟩ := h3.get ey
          rw [List.getElem?_map] at ed
          obtain ⟨o, eo, rfl⟩ := Option.map_eq_some_iff.mp ed
          have so := ht.o o (List.mem_of_getElem? eo)
          obtain ⟨r, rfl, hr0⟩ := hd.op
          have so2 := so.n
          exact ⟨rfl, _, rfl, r, _, o.1 :: o.2.map numS, rfl, x7 _ _ (x6 _ _ hr0), .cons (.inl rfl) (sv_ints so.i), by rw [List.length_cons, List.length_map]; omega, sum7 (by have := so.w; omega) (by omega) so.i, fun H9 x9 => hC _ _ x9 ⟨o, eo, rfl⟩⟩
        · intro H7 zs x7 hD7 hl7 hr7
          have ez : zs = t.2.map fun o => V.str (opRow o) := list_map (by omega) fun i y e => hr7 i y e
          have nl6 : ¬ l = D := fun e => by
            rw [e, hD] at hl6
            cases hl6
          have hl7' := x7 _ _ hl6
          have htn := ht.n
          refine ⟨l, D, _, _, rfl, rfl, hl7', hD7, ?_, Ext.putN (Ext.trans x6 x7) nl, ⟨_, _, rfl⟩, ?_⟩
          · rw [List.length_map, List.length_append, hl7]
            have := small i
            show _ + 1 + _ ≤ _
            omega
          · rw [etake, ez]
            refine upd_same.trans (congrArg (fun z => some (HO.lst z)) ?_)
            have e9 : (thRows t).map V.str = [V.str ("thread " ++ numS t.1)] ++ t.2.map fun o => V.str (opRow o) := by
              unfold thRows
              rw [List.map_cons, List.map_map]
              rfl
            simp only [List.map_append, e9, List.append_assoc, List.map_cons, List.map_nil]
      · rintro σ' H' ⟨x5, hs, hl5⟩
        refine ⟨x5, hs, ?_⟩
        rw [lth, List.take_length] at hl5
        exact hl5
    rintro σ' H5 ⟨x5, ⟨w1, w2, rfl⟩, hl5⟩
    refine ⟨⟨_, rfl⟩, _, rfl, Hf.nl, l, rowsOf z, rfl, rfl, .inl (SqL.of hl5), ?_, k _ x5⟩
    have y := sum_le (l := rowsOf z) (k := 40) lall
    have e1 : Hf.nl.length = 1 := by decide +kernel
    rw [e1]
    omega
end
end Hf
end
section
set_option maxHeartbeats 4000000
/-! D6: the reader of lines. -/
namespace Hf
open PySem PySem.Spec PyProof.Rows L2
section
variable {X : Cx} {C : Addr} {m : Str} {f : Addr} {CX : CXT} {k j : Nat} {sp : Sp} {E : XK} {o e : Expr} {es : List Expr} {ta : TE} {t : TA} {apos pos : Pos}
theorem pe_mB {pl : Sem Bool} (he : PE X o ta) (c : Cls X.K C) (hm : Meth X.K C m f) (F : FnB CX X.prog X.w X.K X.mg X.base k f sp) (hr : Room j X.A) (hk : k ≤ j) (hx : Passes CX X E) (ha : PA X (e :: es) t)
    (hst : starEach (e :: es) X.env = (false, eval e X.env) :: starEach es X.env := by rfl) (hpl : (backTo pos (starEach es X.env)).any (·.1) = false := by rfl)
    (ht : eval (.Call (.Attribute o m apos) (e :: es) [] pos) X.env = (do
      let ov ← eval o X.env
      standAt apos.atName
      let (f, first) ← holding [ov] (getMethod ov m pl)
      callWith pos f first (backTo pos (starEach (e :: es) X.env)) (backToKw pos (keywordEach [] X.env))) := by rfl) :
    PE X (.Call (.Attribute o m apos) (e :: es) [] pos) (tMeth C m sp [] E ta t) := by
  obtain ⟨fd, ps, Fo, b⟩ := F
  exact pe_meth (pl := pl) he c hm Fo (hr.mono hk) b .nil hx ha hst hpl ht
theorem pe_mB0 {pl : Sem Bool} (he : PE X o ta) (c : Cls X.K C) (hm : Meth X.K C m f) (F : FnB CX X.prog X.w X.K X.mg X.base k f sp) (hr : Room j X.A) (hk : k ≤ j) (hx : Passes CX X E)
    (ht : eval (.Call (.Attribute o m apos) [] [] pos) X.env = (do
      let ov ← eval o X.env
      standAt apos.atName
      let (f, first) ← holding [ov] (getMethod ov m pl)
      callWith pos f first (backTo pos (starEach [] X.env)) (backToKw pos (keywordEach [] X.env))) := by rfl) :
    PE X (.Call (.Attribute o m apos) [] [] pos) (tMeth C m sp [] E ta tNil) := by
  obtain ⟨fd, ps, Fo, b⟩ := F
  exact pe_meth0 (pl := pl) he c hm Fo (hr.mono hk) b .nil hx ht
/-- what is never reached -/
theorem ps_any {st : Stmt} : PS X st (fun _ _ _ => False) := ⟨fun _ _ _ _ _ _ h => h.elim⟩
end
theorem Ext.toB {m : Addr} {H H' : Hp} (x : Ext H H') : ExtB m H H' := ExtB.of x
theorem ExtB.putN {m q : Addr} {H H' : Hp} {o : HO} (x : ExtB m H H') (n : H q = none) : ExtB m H (upd H' q o) := fun b u nb e => by
  rw [upd_ne (ne_of_none e n)]
  exact x b u nb e
theorem ExtB.free {m q : Addr} {H H' : Hp} (x : ExtB m H H') (hm : ∃ o, H' m = some o) (n : H' q = none) : H q = none := by
  have ne : q ≠ m := fun e => by
    obtain ⟨o, eo⟩ := hm
    rw [e, eo] at n
    cases n
  cases e : H q with
  | none => rfl
  | some o =>
    rw [x q o ne e] at n
    cases n
/-! ### the reader's object -/
abbrev rf (l : Addr) (p : Nat) : List (Str × V) := [("lines", .ref l), ("place", .int p)]
theorem pl_ne : ¬ ("place" : Str) = "lines" := by decide +kernel
theorem rf_lines (l : Addr) (p : Nat) : List.lookup ("lines" : Str) (rf l p) = some (.ref l) := by
  rw [lookup_put, if_pos rfl]
theorem rf_place (l : Addr) (p : Nat) : List.lookup ("place" : Str) (rf l p) = some (.int p) := by
  rw [lookup_put, if_neg pl_ne, lookup_put, if_pos rfl]
theorem rf_no {l : Addr} {p : Nat} {m : Str} (h1 : ¬ m = "lines") (h2 : ¬ m = "place") : List.lookup m (rf l p) = none := by
  rw [lookup_put, if_neg h1, lookup_put, if_neg h2]
  rfl
theorem ln_ne : ¬ ("lines" : Str) = "place" := by decide +kernel
theorem rf_put (l : Addr) (p : Nat) (i : Int) (q : Nat) (e : i = (q : Int)) : putF "place" (.int i) (rf l p) = rf l q := by
  show (if ("lines" : Str) = "place" then _ else (("lines" : Str), V.ref l) :: (if ("place" : Str) = "place" then [(("place" : Str), V.int i)] else _)) = _
  rw [if_neg ln_ne, if_pos rfl, e]
/-- the reader at r, its rows in the list l, before row p -/
structure RdAt (K : Fg) (H : Hp) (r dx l : Addr) (rows : List Str) (p : Nat) : Prop where
  obj : H r = some (.ins (cR K) dx (rf l p))
  lst : H l = some (.lst (rows.map V.str))
theorem RdAt.ne {K : Fg} {H : Hp} {r dx l : Addr} {rows : List Str} {p : Nat} (h : RdAt K H r dx l rows p) : l ≠ r := fun e => by
  have a := h.lst
  rw [e, h.obj] at a
  cases a
theorem RdAt.ext {K : Fg} {H H' : Hp} {r dx l : Addr} {rows : List Str} {p : Nat} (h : RdAt K H r dx l rows p) (x : Ext H H') : RdAt K H' r dx l rows p := ⟨x _ _ h.obj, x _ _ h.lst⟩
/-- what the model bears of a text's rows -/
def RowsZ (rows : List Str) : Prop := rows.length ≤ 90000 ∧ ∀ x ∈ rows, x.length ≤ 90000
abbrev itemV (line : Str) : List V := .str (wordOf line) :: (numsOf line).map numV
section
variable {P : Program} {w : World} {K : Fg} {mg : Str → Option Value} {base : Heap}
/-! ### __init__ -/
def spRInit (K : Fg) : Sp := fun vs H Q _ => ∃ r dx txt, vs = [.ref r, .str txt] ∧ H r = some (.ins (cR K) dx []) ∧ txt.length ≤ 90000 ∧ ∀ H' l, ExtB r H H' → RdAt K H' r dx l (Txt.split txt nl) 0 → Q .non H'
theorem scRInit : FnScope ["self", "text"] ["self", "text"] (defScope sRInit) := ⟨rfl, rfl, rfl, by decide +kernel, rfl, by decide +kernel, by decide +kernel⟩
theorem f_RInit (T : Txt K mg w) : FnB L2.CX0 P w K mg base 1 (mA "LineReader" "__init__" K) (spRInit K) := by
  refine fnB_of (d := dM "LineReader" "__init__" "LineReader.__init__" sRInit) (i := 24) T rfl scRInit (fun _ _ _ _ _ _ us hl => match us, hl with | [_, _], _ => rfl) (fun vs H Q E h => ?_) (fun f cdv A outer s H vs Q E hr h => ?_)
  · obtain ⟨r, dx, txt, rfl, _⟩ := h
    rfl
  · obtain ⟨r, dx, txt, rfl, hx, hz, k⟩ := h
    refine ⟨_, PSs.nox (pss_cons (ps_fld (pv 0) (pe_split (pv 1) pe_str) (by rfl))
      (pss_one (ps_fld (pv 0) pe_int (by rfl)))), ?_⟩
    have en := sizeLine_eq
    refine ⟨_, rfl, ⟨_, rfl⟩, txt, nl, rfl, rfl, by decide +kernel, by omega, fun p np => ?_⟩
    have nrp : r ≠ p := ne_of_none hx np
    refine ⟨_, rfl, r, cR K, dx, [], rfl, (upd_ne nrp).trans hx, T.rCls, T.rLin, by decide, ?_⟩
    refine ⟨_, rfl, r, cR K, dx, _, rfl, upd_same, T.rCls, T.rPla, by show 1 < 1000; decide, ?_⟩
    refine k _ p (ExtB.put (ExtB.put (ExtB.putN ExtB.rfl' np))) ⟨?_, ?_⟩
    · refine upd_same.trans (congrArg (fun z => some (HO.ins (cR K) dx z)) ?_)
      show (if ("lines" : Str) = "place" then _ else (("lines" : Str), V.ref p) :: [(("place" : Str), V.int 0)]) = _
      rw [if_neg ln_ne]
      rfl
    · rw [upd_ne nrp.symm, upd_ne nrp.symm, upd_same]
/-! ### fail -/
def spFail (K : Fg) : Sp := fun vs H _ E => ∃ r dx l p, vs = [.ref r] ∧ H r = some (.ins (cR K) dx (rf l p)) ∧ ∀ d H', Ext H H' → H' d = some (.xd [("line", .int ((p + 1 : Nat) : Int))]) → E (.ref (cP K)) (some d) H'
theorem scRFail : FnScope ["self"] ["self"] (defScope sRFail) := ⟨rfl, rfl, rfl, by decide +kernel, rfl, by decide +kernel, by decide +kernel⟩
theorem f_fail (T : Txt K mg w) : FnB (L2.CX P w) P w K mg base 3 (mA "LineReader" "fail" K) (spFail K) := by
  refine fnB_of (d := dM "LineReader" "fail" "LineReader.fail" sRFail) (i := 25) T rfl scRFail (fun _ _ _ _ _ _ us hl => match us, hl with | [_], _ => rfl) (fun vs H Q E h => ?_) (fun f cdv A outer s H vs Q E hr h => ?_)
  · obtain ⟨r, dx, l, p, rfl, _⟩ := h
    rfl
  · obtain ⟨r, dx, l, p, rfl, hx, k⟩ := h
    have tk : Takes (cxOf (L2.CX P w) P w K mg base ["self"] "LineReader.fail" (defScope sRFail) f cdv A outer s H E) (fun cls d _ H => E cls d H) := takes_of rfl rfl rfl rfl
    refine ⟨_, (pss_one (ps_raiseX (by rfl) T.xP (f_PE T) hr (by decide) tk (by rfl) (T.glo "ParseError" (by decide +kernel)) (pe_op op_add (pe_fld (pv 0) (by rfl)) pe_int))), ?_⟩
    exact ⟨_, rfl, r, cR K, dx, _, _, rfl, hx, T.rCls, T.rPla, rf_place l p, _, _, rfl, rfl, mk_err fun d H' x e => k d H' x e⟩
/-! ### item -/
def ItemP (H : Hp) (rows : List Str) (p : Nat) (Q : VK) : Prop := match rows[p]? with
  | none => ∀ H', Ext H H' → Q .non H'
  | some line => ∀ H' q, Ext H H' → H' q = some (.tup (itemV line)) → Q (.ref q) H'
def spItem (K : Fg) : Sp := fun vs H Q _ => ∃ r dx l rows p, vs = [.ref r] ∧ RdAt K H r dx l rows p ∧ RowsZ rows ∧ p ≤ rows.length ∧ ItemP H rows p Q
/-- what the reader's item is before row p -/
def ItemR (H : Hp) (rows : List Str) (p : Nat) (v : V) : Prop := match rows[p]? with
  | none => v = .non
  | some line => ∃ q, v = .ref q ∧ H q = some (.tup (itemV line))
theorem itemP {H : Hp} {rows : List Str} {p : Nat} {Q : VK} (h : ∀ v H2, Ext H H2 → ItemR H2 rows p v → Q v H2) : ItemP H rows p Q := by
  unfold ItemP
  cases e : rows[p]? with
  | none => exact fun H2 x => h _ _ x (by unfold ItemR; rw [e])
  | some line => exact fun H2 q x hq => h _ _ x (by unfold ItemR; rw [e]; exact ⟨q, rfl, hq⟩)
theorem scRItem : FnScope ["self"] ["self"] (defScope sRItem) := ⟨rfl, rfl, rfl, by decide +kernel, rfl, by decide +kernel, by decide +kernel⟩
theorem f_item (T : Txt K mg w) : FnB L2.CX0 P w K mg base 3 (mA "LineReader" "item" K) (spItem K) := by
  refine fnB_of (d := dM "LineReader" "item" "LineReader.item" sRItem) (i := 26) T rfl scRItem (fun _ _ _ _ _ _ us hl => match us, hl with | [_], _ => rfl) (fun vs H Q E h => ?_) (fun f cdv A outer s H vs Q E hr h => ?_)
  · obtain ⟨r, dx, l, rows, p, rfl, _⟩ := h
    rfl
  · obtain ⟨r, dx, l, rows, p, rfl, hR, hz, hp, k⟩ := h
    unfold ItemP at k
    refine ⟨_, PSs.nox (pss_cons (ps_if (pt_cmpR op_eq (pe_fld (pv 0) (by rfl)) (pe_callB call_len_seq (by rfl) (fr T "len") boot_len (pa_cons (pe_fld (pv 0) (by rfl)) pa_nil)) (nomark _)) (pss_one (ps_ret pe_non)) pss_nil)
      (pss_one (ps_ret (C8.pe_c (c_parseItem T) hr (by decide) (by rfl) (pa_cons (pe_ix ix_list (pe_fld (pv 0) (by rfl)) (pe_fld (pv 0) (by rfl)) (fun _ _ => rfl)) pa_nil))))), ?_⟩
    refine ⟨_, rfl, r, cR K, dx, _, _, rfl, hR.obj, T.rCls, T.rPla, rf_place l p, _, rfl, r, cR K, dx, _, _, rfl, hR.obj, T.rCls, T.rLin, rf_lines l p, l, _, rfl, .inl (SqL.of hR.lst), rfl, _, rfl, ite2 (fun q => ?_) (fun q => ?_)⟩
    · have e : p = rows.length := by
        have z := V.int.inj (of_decide_eq_true q)
        rw [List.length_map] at z
        omega
      rw [e, List.getElem?_eq_none (Nat.le_refl _)] at k
      exact k _ Ext.rfl'
    · have lt : p < rows.length := by
        rcases Nat.lt_or_ge p rows.length with h | h
        · exact h
        · refine absurd (decide_eq_true ?_) q
          rw [List.length_map]
          exact congrArg V.int (by omega)
      have e : rows[p]? = some (rows[p]'lt) := List.getElem?_eq_getElem lt
      rw [e] at k
      refine ⟨_, rfl, r, cR K, dx, _, _, rfl, hR.obj, T.rCls, T.rLin, rf_lines l p, _, rfl, r, cR K, dx, _, _, rfl, hR.obj, T.rCls, T.rPla, rf_place l p, l, _, _, .str (rows[p]'lt), rfl, rfl, SqL.of hR.lst, atI_nat (by rw [List.getElem?_map, e] <;> rfl), ?_⟩
      exact ⟨_, rfl, hz.2 _ (List.getElem_mem lt), fun H' q x e => k H' q x e⟩
/-! ### read_numbers -/
theorem any_non : ∀ os : List (Option Int), ((os.map numV).any fun y => eqV y .non) = os.any Option.isNone
  | [] => rfl
  | none :: r => by
    rw [List.map_cons, List.any_cons, List.any_cons]
    rfl
  | some i :: r => by
    rw [List.map_cons, List.any_cons, List.any_cons, any_non r]
    rfl
theorem in_non (line : Str) : inV .non (itemV line) = (numsOf line).any Option.isNone := by
  show (eqV (.str (wordOf line)) .non || (((numsOf line).map numV).any fun y => eqV y .non)) = _
  rw [any_non]
  rfl
theorem flat_nums : ∀ os : List (Option Int), (os.map numV).all flatV = true
  | [] => rfl
  | none :: r => by
    rw [List.map_cons, List.all_cons, flat_nums r] <;> rfl
  | some i :: r => by
    rw [List.map_cons, List.all_cons, flat_nums r] <;> rfl
theorem flat_item (line : Str) : (itemV line).all flatV = true := by
  show (true && _) = true
  rw [flat_nums] <;> rfl
theorem isNone_mem {os : List (Option Int)} : os.any Option.isNone = true ↔ none ∈ os := by
  rw [List.any_eq_true]
  constructor
  · rintro ⟨o, h, e⟩
    cases o with
    | none => exact h
    | some i => cases e
  · exact fun h => ⟨none, h, rfl⟩
theorem nums_len (line : Str) : (numsOf line).length = (tailOf line).length := by
  unfold numsOf
  rw [List.length_map]
def spReadNums (K : Fg) : Sp := fun vs H Q E => ∃ r dx l rows p wd, ∃ most : Nat, vs = [.ref r, .str wd, .int most] ∧ RdAt K H r dx l rows p ∧ RowsZ rows ∧ p ≤ rows.length ∧
  (match (rows[p]?).bind fun line => numbersOf line wd most with
    | none => ∀ d H', Ext H H' → H' d = some (.xd [("line", .int ((p + 1 : Nat) : Int))]) → E (.ref (cP K)) (some d) H'
    | some ns => ∀ H' q, ExtB r H H' → RdAt K H' r dx l rows (p + 1) → H' q = some (.lst (ns.map .int)) → H q = none → Q (.ref q) H')
theorem scRNums : FnScope ["self", "word", "most", "item"] ["self", "word", "most"] (defScope sRNums) := ⟨rfl, rfl, rfl, by decide +kernel, rfl, by decide +kernel, by decide +kernel⟩
theorem f_nums (T : Txt K mg w) : FnB (L2.CX P w) P w K mg base 4 (mA "LineReader" "read_numbers" K) (spReadNums K) := by
  refine fnB_of (d := dM "LineReader" "read_numbers" "LineReader.read_numbers" sRNums) (i := 27) T rfl scRNums (fun _ _ _ _ _ _ us hl => match us, hl with | [_, _, _], _ => rfl) (fun vs H Q E h => ?_) (fun f cdv A outer s H vs Q E hr h => ?_)
  · obtain ⟨r, dx, l, rows, p, wd, most, rfl, _⟩ := h
    rfl
  · obtain ⟨r, dx, l, rows, p, wd, most, rfl, hR, hz, hp, k⟩ := h
    have tk : Takes (cxOf (L2.CX P w) P w K mg base ["self", "word", "most", "item"] "LineReader.read_numbers" (defScope sRNums) f cdv A outer s H E) (fun cls d _ H => E cls d H) := takes_of rfl rfl rfl rfl
    refine ⟨_, (pss_cons (ps_set (i := 3) scRNums.nd (by rfl) (by first | exact Or.inl rfl | exact Or.inr rfl) (pe_mB0  (pv 0) T.rCls (T.rMet "item" (by decide +kernel)) (f_item T) hr (by decide) L2.pass0))
      (pss_cons (ps_if (PW.pt (pw_or (pt_cmp (pc_isN (pv 3))) (pw_or (pt_cmpR op_ne (pe_ix ix_tup (pv 3) pe_int (fun _ _ => rfl)) (pv 1) (nomark _)) (pw_or (pt_not (pt_chain op_le op_le pe_int (pe_op op_sub (pe_callB call_len_seq (by rfl) (fr T "len") boot_len (pa_cons (pv 3) pa_nil)) pe_int) (pv 2))) (pw_or1 (pt_cmpR op_in_seq pe_non (pv 3) (by with_unfolding_all rfl))))))) (pss_one (ps_expr (pe_mB0 (E := E) (pv 0) T.rCls (T.rMet "fail" (by decide +kernel)) (f_fail T) hr (by decide) (passes_call tk fun _ _ _ _ h => h)))) pss_nil)
      (pss_cons (ps_fldaug (pv 0) pe_int in_add)
      (pss_one (ps_ret (pe_callTy call_list_of (by rfl) (fr T "list") boot_list (pa_cons (pe_slice sl_tupA (pv 3) (po_some pe_int) po_none) pa_nil))))))), ?_⟩
    have no1 : List.lookup ("item" : Str) (rf l p) = none := rf_no (by decide +kernel) (by decide +kernel)
    have no2 : List.lookup ("fail" : Str) (rf l p) = none := rf_no (by decide +kernel) (by decide +kernel)
    refine ⟨_, rfl, r, dx, _, rfl, hR.obj, no1, r, dx, l, rows, p, rfl, hR, hz, hp, ?_⟩
    unfold ItemP
    cases e : rows[p]? with
    | none =>
      rw [e] at k
      intro H1 x1
      exact ⟨_, rfl, _, rfl, itT (by decide) (itT rfl ⟨_, rfl, r, dx, _, rfl, x1 _ _ hR.obj, no2, r, dx, l, p, rfl, x1 _ _ hR.obj, fun d H' x e => k d H' (Ext.trans x1 x) e⟩)⟩
    | some line =>
      rw [e] at k
      intro H1 q x1 hq
      have hR1 := hR.ext x1
      have lnl := nums_len line
      have kf : numbersOf line wd most = none → ∀ {σ : L2.St}, σ[0]? = some (some (.ref r)) → ∀ {Q' : VK}, tMeth (cR K) "fail" (spFail K) [] E (tVar 0) tNil σ H1 Q' := fun en {σ} h0 {Q'} => by
        have k2 : ∀ d H', Ext H H' → H' d = some (.xd [("line", .int ((p + 1 : Nat) : Int))]) → E (.ref (cP K)) (some d) H' := by
          have z : ((some line).bind fun line => numbersOf line wd most) = none := en
          rw [z] at k
          exact k
        exact ⟨_, h0, r, dx, _, rfl, hR1.obj, no2, r, dx, l, p, rfl, hR1.obj, fun d H' x e => k2 d H' (Ext.trans x1 x) e⟩
      refine ⟨_, rfl, _, rfl, itF (by simp) ?_⟩
      refine ⟨_, rfl, q, _, 0, _, rfl, rfl, SqT.of hq, atI_nat (j := 0) rfl, _, rfl, rfl, _, rfl, ite2 (fun c => ?_) (fun c => ?_)⟩
      · refine itT rfl (kf ?_ rfl)
        unfold numbersOf
        rw [if_neg]
        intro h
        have z : (!decide (V.str (wordOf line) = V.str wd)) = true := c
        rw [h.1, decide_eq_true rfl] at z
        cases z
      · have ew : wordOf line = wd := by
          have z : ¬ (!decide (V.str (wordOf line) = V.str wd)) = true := c
          rw [Bool.not_eq_true', decide_eq_false_iff_not, Classical.not_not] at z
          exact V.str.inj z
        have el : (((itemV line).length : Nat) : Int) - 1 = ((tailOf line).length : Nat) := by
          rw [List.length_cons, List.length_map, lnl]
          omega
        have bad : ¬ (1 ≤ (tailOf line).length ∧ (tailOf line).length ≤ most) → numbersOf line wd most = none := fun h => by
          unfold numbersOf
          rw [if_neg fun z => h z.2]
        refine ⟨_, rfl, q, _, rfl, .inr (SqT.of hq), _, _, rfl, rfl, _, _, rfl, rfl, _, rfl, ?_⟩
        rw [el]
        refine ite2 (fun c1 => ?_) (fun c1 => ?_)
        rotate_left
        · refine ⟨_, rfl, itT rfl (itT rfl (kf (bad fun h => c1 (decide_eq_true ?_)) rfl))⟩
          omega
        have c1 := of_decide_eq_true c1
        refine ⟨_, rfl, _, _, rfl, rfl, _, rfl, ite2 (fun c2 => ?_) (fun c2 => ?_)⟩
        · refine itT rfl (kf (bad fun h => ?_) rfl)
          have z : (!decide ((((itemV line).length : Nat) : Int) - 1 ≤ (most : Int))) = true := c2
          rw [el, decide_eq_true (by omega)] at z
          cases z
        have c2 : ((tailOf line).length : Int) ≤ (most : Int) := by
          have z : ¬ (!decide ((((itemV line).length : Nat) : Int) - 1 ≤ (most : Int))) = true := c2
          rw [Bool.not_eq_true', decide_eq_false_iff_not, Classical.not_not, el] at z
          exact z
        have en : numbersOf line wd most = allSome (numsOf line) := by
          unfold numbersOf
          rw [if_pos ⟨ew, by omega, by omega⟩]
        refine ⟨_, rfl, q, _, rfl, .inr (SqT.of hq), rfl, flat_item line, _, rfl, ite2 (fun c3 => ?_) (fun c3 => ?_)⟩
        · have z : inV .non (itemV line) = true := c3
          rw [in_non] at z
          exact kf (by rw [en, allSome_none (isNone_mem.mp z)]) rfl
        have z : ¬ inV .non (itemV line) = true := c3
        rw [in_non] at z
        obtain ⟨ns, ens⟩ := allSome_of fun h => z (isNone_mem.mpr h)
        have k2 : ∀ H' q, ExtB r H H' → RdAt K H' r dx l rows (p + 1) → H' q = some (.lst (ns.map .int)) → H q = none → Q (.ref q) H' := by
          have z : ((some line).bind fun line => numbersOf line wd most) = some ns := en.trans ens
          rw [z] at k
          exact k
        refine ⟨_, rfl, r, cR K, dx, _, _, rfl, hR1.obj, T.rCls, T.rPla, rf_place l p, _, _, rfl, rfl, dx, _, hR1.obj, by show 2 < 1000; decide, ?_⟩
        rw [rf_put l p _ (p + 1) (by omega)]
        have nqr : q ≠ r := fun e => by
          rw [e, hR1.obj] at hq
          cases hq
        have hq2 : (upd H1 r (.ins (cR K) dx (rf l (p + 1)))) q = some (.tup (itemV line)) := (upd_ne nqr).trans hq
        have hR2 : RdAt K (upd H1 r (.ins (cR K) dx (rf l (p + 1)))) r dx l rows (p + 1) := ⟨upd_same, (upd_ne hR1.ne).trans hR1.lst⟩
        have x2 : ExtB r H (upd H1 r (.ins (cR K) dx (rf l (p + 1)))) := ExtB.put (ExtB.of x1)
        generalize upd H1 r (.ins (cR K) dx (rf l (p + 1))) = H2 at hq2 hR2 x2 ⊢
        refine ⟨_, rfl, _, rfl, q, _, rfl, SqT.of hq2, fun y => absurd y.1 (six1 _ _), fun _ u hu => ?_⟩
        rw [cut1]
        have x3 := Ext.new (o := .tup ((numsOf line).map numV)) Ext.rfl' hu
        refine ⟨u, _, rfl, .inr (SqT.of upd_same), fun v hv => ?_⟩
        have x4 := Ext.new (o := .lst ((numsOf line).map numV)) x3 hv
        refine k2 _ v (ExtB.trans x2 (ExtB.of x4)) (hR2.ext x4) (upd_same.trans ?_) (ExtB.free (ExtB.trans x2 (ExtB.of x3)) ⟨_, x3 _ _ hR2.obj⟩ hv)
        rw [allSome_map ens, List.map_map]
        rfl
end
end Hf
end
section
set_option maxHeartbeats 4000000
/-! D7: the reader of lines: the fault, a program, the threads. -/
namespace Hf
open PySem PySem.Spec PyProof.Rows L2
theorem in_strs (x : Str) : ∀ l : List Str, inV (.str x) (l.map V.str) = decide (x ∈ l)
  | [] => rfl
  | a :: r => by
    have ih := in_strs x r
    show ((a == x) || inV (.str x) (r.map V.str)) = _
    rw [ih]
    by_cases h : a = x
    · subst h
      rw [beq_self_eq_true, Bool.true_or]
      exact (decide_eq_true List.mem_cons_self).symm
    · have e : (a == x) = false := beq_eq_false_iff_ne.mpr h
      rw [e, Bool.false_or]
      have z : (x ∈ a :: r) ↔ x ∈ r := by
        rw [List.mem_cons]
        exact ⟨fun w => w.elim (fun w => absurd w.symm h) id, .inr⟩
      simp only [z]
theorem flat_strs : ∀ l : List Str, (l.map V.str).all flatV = true
  | [] => rfl
  | a :: r => by
    rw [List.map_cons, List.all_cons, flat_strs r] <;> rfl
section
variable {P : Program} {w : World} {K : Fg} {mg : Str → Option Value} {base : Heap}
/-! ### fault_word -/
def spFault (K : Fg) : Sp := fun vs H Q E => ∃ r dx l rows p, vs = [.ref r] ∧ RdAt K H r dx l rows p ∧ RowsZ rows ∧ p ≤ rows.length ∧
  (match readFault rows p with
    | .error n => ∀ d H', Ext H H' → H' d = some (.xd [("line", .int (n : Nat))]) → E (.ref (cP K)) (some d) H'
    | .ok (k, p') => ∀ H', ExtB r H H' → RdAt K H' r dx l rows p' → Q (optV k) H')
theorem scRFault : FnScope ["self", "word", "rest"] ["self"] (defScope sRFault) := ⟨rfl, rfl, rfl, by decide +kernel, rfl, by decide +kernel, by decide +kernel⟩
theorem f_fword (T : Txt K mg w) : FnB (L2.CX P w) P w K mg base 4 (mA "LineReader" "fault_word" K) (spFault K) := by
  refine fnB_of (d := dM "LineReader" "fault_word" "LineReader.fault_word" sRFault) (i := 28) T rfl scRFault (fun _ _ _ _ _ _ us hl => match us, hl with | [_], _ => rfl) (fun vs H Q E h => ?_) (fun f cdv A outer s H vs Q E hr h => ?_)
  · obtain ⟨r, dx, l, rows, p, rfl, _⟩ := h
    rfl
  · obtain ⟨r, dx, l, rows, p, rfl, hR, hz, hp, k⟩ := h
    have tk : Takes (cxOf (L2.CX P w) P w K mg base ["self", "word", "rest"] "LineReader.fault_word" (defScope sRFault) f cdv A outer s H E) (fun cls d _ H => E cls d H) := takes_of rfl rfl rfl rfl
    refine ⟨_, (pss_cons (ps_if (pt_cmpR op_eq (pe_fld (pv 0) (by rfl)) (pe_callB call_len_seq (by rfl) (fr T "len") boot_len (pa_cons (pe_fld (pv 0) (by rfl)) pa_nil)) (nomark _)) (pss_one (ps_ret pe_non)) pss_nil)
      (pss_cons (ps_asg (pe_split (pe_ix ix_list (pe_fld (pv 0) (by rfl)) (pe_fld (pv 0) (by rfl)) (fun _ _ => rfl)) pe_str) (pg_star1 (by rfl) (pgs_cons (pg_name (i := 1) scRFault.nd (by rfl) (Or.inl (by rfl))) (pgs_cons (pg_name (i := 2) scRFault.nd (by rfl) (Or.inl (by rfl))) pgs_nil))))
      (pss_cons (ps_if (pt_cmpR op_ne (pv 1) pe_str (nomark _)) (pss_one (ps_ret pe_non)) pss_nil)
      (C8.pss_cut (ps_if (PW.pt (pw_or (pt_cmpR op_ne (pe_callB call_len_seq (by rfl) (fr T "len") boot_len (pa_cons (pv 2) pa_nil)) pe_int (nomark _)) (pw_or1 (pt_cmpR op_notIn_seq (pe_ix ix_list (pv 2) pe_int (fun _ _ => rfl)) (pe_gl (by rfl) (T.glo "FAULTS" (by decide +kernel))) (by with_unfolding_all rfl))))) (pss_one (ps_expr (pe_mB0 (E := E) (pv 0) T.rCls (T.rMet "fail" (by decide +kernel)) (f_fail T) hr (by decide) (passes_call tk fun _ _ _ _ h => h)))) pss_nil)
      (pss_cons (ps_fldaug (pv 0) pe_int in_add)
      (pss_one (ps_ret (pe_ix ix_list (pv 2) pe_int (fun _ _ => rfl))))))))), ?_⟩
    have no2 : List.lookup ("fail" : Str) (rf l p) = none := rf_no (by decide +kernel) (by decide +kernel)
    have en := sizeLine_eq
    refine ⟨_, rfl, r, cR K, dx, _, _, rfl, hR.obj, T.rCls, T.rPla, rf_place l p, _, rfl, r, cR K, dx, _, _, rfl, hR.obj, T.rCls, T.rLin, rf_lines l p, l, _, rfl, .inl (SqL.of hR.lst), rfl, _, rfl, ite2 (fun q => ?_) (fun q => ?_)⟩
    · have e : p = rows.length := by
        have z := V.int.inj (of_decide_eq_true q)
        rw [List.length_map] at z
        omega
      have e2 : readFault rows p = .ok (none, p) := by
        unfold readFault
        rw [e, List.getElem?_eq_none (Nat.le_refl _)]
      rw [e2] at k
      exact k _ ExtB.rfl' hR
    · have lt : p < rows.length := by
        rcases Nat.lt_or_ge p rows.length with h | h
        · exact h
        · refine absurd (decide_eq_true ?_) q
          rw [List.length_map]
          exact congrArg V.int (by omega)
      have e : rows[p]? = some (rows[p]'lt) := List.getElem?_eq_getElem lt
      have hline := hz.2 _ (List.getElem_mem lt)
      generalize rows[p]'lt = line at e hline
      have tl := tail_len line
      have e0 : (Txt.split line sp).map V.str = .str (wordOf line) :: (tailOf line).map .str := by rw [split_cons] <;> rfl
      refine ⟨_, rfl, r, cR K, dx, _, _, rfl, hR.obj, T.rCls, T.rLin, rf_lines l p, _, rfl, r, cR K, dx, _, _, rfl, hR.obj, T.rCls, T.rPla, rf_place l p, l, _, _, .str line, rfl, rfl, SqL.of hR.lst, atI_nat (by rw [List.getElem?_map, e] <;> rfl), ⟨_, rfl⟩, line, sp, rfl, rfl, by decide +kernel, by omega, fun a ha => ?_⟩
      refine ⟨a, _, _, rfl, SqL.of (upd_same.trans (by rw [e0])), by rw [List.length_map]; omega, fun q2 hq => ?_⟩
      have x1 : Ext H (upd (upd H a (.lst ((Txt.split line sp).map V.str))) q2 (.lst ((tailOf line).map .str))) := Ext.new (Ext.new Ext.rfl' ha) hq
      have hq1 : (upd (upd H a (.lst ((Txt.split line sp).map V.str))) q2 (.lst ((tailOf line).map .str))) q2 = some (.lst ((tailOf line).map .str)) := upd_same
      generalize upd (upd H a (.lst ((Txt.split line sp).map V.str))) q2 (.lst ((tailOf line).map .str)) = H1 at hq1 x1 ⊢
      have hR1 := hR.ext x1
      refine ⟨_, _, rfl, _, _, rfl, rfl, ?_⟩
      refine ⟨_, rfl, rfl, _, rfl, ite2 (fun c => ?_) (fun c => ?_)⟩
      · have e2 : readFault rows p = .ok (none, p) := by
          unfold readFault
          rw [e]
          show (if wordOf line = "fault" then _ else _) = _
          rw [if_neg]
          intro h
          have z : (!decide (V.str (wordOf line) = V.str "fault")) = true := c
          rw [h, decide_eq_true rfl] at z
          cases z
        rw [e2] at k
        exact k _ (ExtB.of x1) hR1
      · have ew : wordOf line = "fault" := by
          have z : ¬ (!decide (V.str (wordOf line) = V.str "fault")) = true := c
          rw [Bool.not_eq_true', decide_eq_false_iff_not, Classical.not_not] at z
          exact V.str.inj z
        have kf : readFault rows p = .error (p + 1) → ∀ {Q' : VK}, tMeth (cR K) "fail" (spFail K) [] E (tVar 0) tNil [some (.ref r), some (.str (wordOf line)), some (.ref q2)] H1 Q' := fun er {Q'} => by
          rw [er] at k
          exact ⟨_, rfl, r, dx, _, rfl, hR1.obj, no2, r, dx, l, p, rfl, hR1.obj, fun d H' x e => k d H' (Ext.trans x1 x) e⟩
        have bad : (∀ x, tailOf line = [x] → x ∉ faults) → readFault rows p = .error (p + 1) := fun h => by
          unfold readFault
          rw [e]
          show (if wordOf line = "fault" then _ else _) = _
          rw [if_pos ew]
          split
          · rename_i x ex
            rw [if_neg (h x ex)]
          · rfl
        refine ⟨fun σ' H' => H' = H1 ∧ σ' = [some (.ref r), some (.str (wordOf line)), some (.ref q2)] ∧ ∃ x, tailOf line = [x] ∧ x ∈ faults, ?_, ?_⟩
        · refine ⟨_, rfl, q2, _, rfl, .inl (SqL.of hq1), rfl, _, rfl, ite2 (fun c1 => ?_) (fun c1 => ?_)⟩
          · refine itT rfl (kf (bad fun x ex => ?_))
            have z : (!decide (V.int ((((tailOf line).map V.str).length : Nat) : Int) = V.int 1)) = true := c1
            rw [ex] at z
            simp at z
          · have z : ¬ (!decide (V.int ((((tailOf line).map V.str).length : Nat) : Int) = V.int 1)) = true := c1
            rw [Bool.not_eq_true', decide_eq_false_iff_not, Classical.not_not, List.length_map] at z
            have z2 : (tailOf line).length = 1 := by
              have := V.int.inj z
              omega
            obtain ⟨x, ex⟩ := List.length_eq_one_iff.mp z2
            refine ⟨_, rfl, q2, _, 0, .str x, rfl, rfl, SqL.of hq1, by rw [ex]; exact atI_nat (j := 0) rfl, gA "FAULTS" K, _, rfl, .inr (T.fts H1), rfl, flat_strs _, _, rfl, ite2 (fun c2 => ?_) (fun c2 => ?_)⟩
            · have y : (!inV (.str x) (faults.map V.str)) = true := c2
              rw [in_strs, Bool.not_eq_true', decide_eq_false_iff_not] at y
              exact kf (bad fun x' ex' => by
                rw [ex] at ex'
                rw [← (List.cons.inj ex').1]
                exact y)
            · have y : ¬ (!inV (.str x) (faults.map V.str)) = true := c2
              rw [in_strs, Bool.not_eq_true', decide_eq_false_iff_not, Classical.not_not] at y
              exact ⟨rfl, rfl, x, ex, y⟩
        rintro σ' H' ⟨rfl, rfl, x, ex, hx⟩
        have e2 : readFault rows p = .ok (some x, p + 1) := by
          unfold readFault
          rw [e]
          show (if wordOf line = "fault" then _ else _) = _
          rw [if_pos ew, ex]
          show (if x ∈ faults then _ else _) = _
          rw [if_pos hx]
        rw [e2] at k
        refine ⟨_, rfl, r, cR K, dx, _, _, rfl, hR1.obj, T.rCls, T.rPla, rf_place l p, _, _, rfl, rfl, dx, _, hR1.obj, by show 2 < 1000; decide, ?_⟩
        rw [rf_put l p _ (p + 1) (by omega)]
        have nqr : q2 ≠ r := fun e => by
          rw [e, hR1.obj] at hq1
          cases hq1
        refine ⟨_, rfl, q2, _, 0, .str x, rfl, rfl, SqL.of ((upd_ne nqr).trans hq1), by rw [ex]; exact atI_nat (j := 0) rfl, k _ (ExtB.put (ExtB.of x1)) ⟨upd_same, (upd_ne hR1.ne).trans hR1.lst⟩⟩
/-! ### program -/
def spProg (K : Fg) : Sp := fun vs H Q E => ∃ r dx l rows p, ∃ dep : Int, vs = [.ref r, .int dep] ∧ RdAt K H r dx l rows p ∧ RowsZ rows ∧ NoRep rows ∧ p ≤ rows.length ∧
  (match takeOps (rows.drop p) p with
    | .error n => ∀ d H', ExtB r H H' → H' d = some (.xd [("line", .int (n : Nat))]) → E (.ref (cP K)) (some d) H'
    | .ok (ops, p') => ∀ H' fl vs, ExtB r H H' → RdAt K H' r dx l rows p' → H fl = none → H' fl = some (.lst vs) → TpL H' vs (ops.map opD) → Q (.ref fl) H')
theorem scRProg : FnScope ["self", "depth", "found", "item"] ["self", "depth"] (defScope sRProg) := ⟨rfl, rfl, rfl, by decide +kernel, rfl, by decide +kernel, by decide +kernel⟩
theorem f_prog (T : Txt K mg w) : FnB (L2.CX P w) P w K mg base 4 (mA "LineReader" "program" K) (spProg K) := by
  refine fnB_of (d := dM "LineReader" "program" "LineReader.program" sRProg) (i := 29) T rfl scRProg (fun _ _ _ _ _ _ us hl => match us, hl with | [_, _], _ => rfl) (fun vs H Q E h => ?_) (fun f cdv A outer s H vs Q E hr h => ?_)
  · obtain ⟨r, dx, l, rows, p, dep, rfl, _⟩ := h
    rfl
  · obtain ⟨r, dx, l, rows, p, dep, rfl, hR, hz, hn, hp, k⟩ := h
    have tk : Takes (cxOf (L2.CX P w) P w K mg base ["self", "depth", "found", "item"] "LineReader.program" (defScope sRProg) f cdv A outer s H E) (fun cls d _ H => E cls d H) := takes_of rfl rfl rfl rfl
    refine ⟨_, (pss_cons (ps_set (i := 2) scRProg.nd (by rfl) (by first | exact Or.inl rfl | exact Or.inr rfl) (pe_lst pa_nil))
      (pss_cons (ps_set (i := 3) scRProg.nd (by rfl) (by first | exact Or.inl rfl | exact Or.inr rfl) (pe_mB0  (pv 0) T.rCls (T.rMet "item" (by decide +kernel)) (f_item T) hr (by decide) L2.pass0))
      (pss_cons (ps_while (passes_of rfl) (PW.pt (pw_and (pt_cmp (pc_notN (pv 3))) (pw_and1 (pt_cmpR op_notIn_seq (pe_ix ix_tup (pv 3) pe_int (fun _ _ => rfl)) (pe_tup (pa_cons pe_str (pa_cons pe_str pa_nil))) (by with_unfolding_all rfl))))) (pss_cons (ps_if (pt_cmpR op_eq (pe_ix ix_tup (pv 3) pe_int (fun _ _ => rfl)) pe_str (nomark _)) (pss_one ps_any) (pss_one (ps_if (pt_val (C8.pe_c (c_isOp T) hr (by decide) (by rfl) (pa_cons (pv 3) pa_nil))) (pss_cons (ps_expr (pe_bm PySem.F.plainAttrs_list PySem.F.slot_list_append PySem.F.type_list_append mt_append (pv 2) (pa_cons (pv 3) pa_nil)))
      (pss_one (ps_fldaug (pv 0) pe_int in_add))) (pss_one (ps_expr (pe_mB0 (E := E) (pv 0) T.rCls (T.rMet "fail" (by decide +kernel)) (f_fail T) hr (by decide) (passes_call tk fun _ _ _ _ h => h)))))))
      (pss_one (ps_set (i := 3) scRProg.nd (by rfl) (by first | exact Or.inl rfl | exact Or.inr rfl) (pe_mB0  (pv 0) T.rCls (T.rMet "item" (by decide +kernel)) (f_item T) hr (by decide) L2.pass0)))))
      (pss_one (ps_ret (pv 2)))))), ?_⟩
    have en := sizeLine_eq
    have hz1 := hz.1
    have no1 : ∀ p, List.lookup ("item" : Str) (rf l p) = none := fun p => rf_no (by decide +kernel) (by decide +kernel)
    have no2 : ∀ p, List.lookup ("fail" : Str) (rf l p) = none := fun p => rf_no (by decide +kernel) (by decide +kernel)
    refine ⟨by show 0 ≤ sizeLine; omega, fun fl nfl => ?_⟩
    have x0 : Ext H (upd H fl (.lst [])) := Ext.new Ext.rfl' nfl
    have hR0 := hR.ext x0
    refine ⟨_, rfl, r, dx, _, rfl, hR0.obj, no1 p, r, dx, l, rows, p, rfl, hR0, hz, hp, itemP fun v H1 x1 hI => ?_⟩
    refine ⟨fun m σ' H' => ∃ p2 ops vs v, σ' = [some (.ref r), some (.int dep), some (.ref fl), some v] ∧ m = rows.length - p2 ∧ p ≤ p2 ∧ p2 ≤ rows.length ∧ ExtB r H H' ∧ RdAt K H' r dx l rows p2 ∧ H' fl = some (.lst vs) ∧ TpL H' vs (ops.map opD) ∧ ItemR H' rows p2 v ∧
      takeOps (rows.drop p) p = pre ops (takeOps (rows.drop p2) p2) ∧ vs.length ≤ p2, ⟨_, p, [], [], v, rfl, rfl, Nat.le_refl _, hp, ExtB.of (Ext.trans x0 x1), hR0.ext x1, x1 _ _ upd_same, .nil, hI, (pre_nil _).symm, Nat.zero_le _⟩, ?_⟩
    rintro m σ' H2 ⟨p2, ops, vs, v, rfl, rfl, h1, h2, x2, hR2, hf2, ht2, hI2, e2, hl2⟩
    have done : takeOps (rows.drop p2) p2 = .ok ([], p2) → ∀ {H3 : Hp}, Ext H2 H3 → Q (.ref fl) H3 := fun ed {H3} x3 => by
      have z : takeOps (rows.drop p) p = .ok (ops, p2) := by
        rw [e2, ed]
        show Except.ok (ops ++ [], p2) = _
        rw [List.append_nil]
      rw [z] at k
      exact k H3 fl vs (ExtB.trans x2 (ExtB.of x3)) (hR2.ext x3) nfl (x3 _ _ hf2) (TpL.mono (TK.of x3) _ _ ht2)
    unfold ItemR at hI2
    cases e : rows[p2]? with
    | none =>
      rw [e] at hI2
      subst hI2
      have ed : rows.drop p2 = [] := List.drop_eq_nil_of_le (List.getElem?_eq_none_iff.mp e)
      exact ⟨_, rfl, _, rfl, itF (by decide) (itF (by decide) ⟨_, rfl, done (by rw [ed, take_nil]) Ext.rfl'⟩)⟩
    | some line =>
      rw [e] at hI2
      obtain ⟨q, rfl, hq⟩ := hI2
      obtain ⟨lt, el⟩ := List.getElem?_eq_some_iff.mp e
      have ed : rows.drop p2 = line :: rows.drop (p2 + 1) := by rw [List.drop_eq_getElem_cons lt, el]
      refine ⟨_, rfl, _, rfl, itT (by simp) ?_⟩
      refine ⟨_, rfl, q, _, 0, _, rfl, rfl, SqT.of hq, atI_nat (j := 0) rfl, by show 2 ≤ sizeLine; omega, fun a na => ?_⟩
      have x3 : Ext H2 (upd H2 a (.tup [.str "thread", .str "end"])) := Ext.new Ext.rfl' na
      refine ⟨a, _, rfl, .inr (SqT.of upd_same), rfl, rfl, _, rfl, ?_⟩
      generalize upd H2 a (.tup [.str "thread", .str "end"]) = H3 at x3 ⊢
      have einv : inV (.str (wordOf line)) [V.str "thread", V.str "end"] = decide (wordOf line = "thread" ∨ wordOf line = "end") := by
        have z := in_strs (wordOf line) ["thread", "end"]
        refine z.trans (decide_eq_decide.mpr ?_)
        rw [List.mem_cons, List.mem_singleton]
      refine ite2 (fun c => ?_) (fun c => ?_)
      · -- a turn
        have nst : ¬ (wordOf line = "thread" ∨ wordOf line = "end") := fun h => by
          have z : (!inV (.str (wordOf line)) [V.str "thread", V.str "end"]) = true := c
          rw [einv, decide_eq_true h] at z
          cases z
        have nrep := hn line (List.mem_of_getElem? e)
        refine ⟨fun σ' H' => ∃ m', m' < rows.length - p2 ∧ ∃ p2 ops vs v, σ' = [some (.ref r), some (.int dep), some (.ref fl), some v] ∧ m' = rows.length - p2 ∧ p ≤ p2 ∧ p2 ≤ rows.length ∧ ExtB r H H' ∧ RdAt K H' r dx l rows p2 ∧ H' fl = some (.lst vs) ∧ TpL H' vs (ops.map opD) ∧ ItemR H' rows p2 v ∧
          takeOps (rows.drop p) p = pre ops (takeOps (rows.drop p2) p2) ∧ vs.length ≤ p2, fun _ _ h => h, ?_⟩
        refine ⟨_, rfl, q, _, 0, _, rfl, rfl, SqT.of (x3 _ _ hq), atI_nat (j := 0) rfl, rfl, _, rfl, itF (fun z => nrep (V.str.inj (of_decide_eq_true z))) ?_⟩
        refine ⟨_, rfl, q, wordOf line, numsOf line, rfl, x3 _ _ hq, by rw [nums_len]; have := tail_len line; have := hz.2 _ (List.mem_of_getElem? e); omega, fun H4 x4 => ⟨_, rfl, ite2 (fun c2 => ?_) (fun c2 => ?_)⟩⟩
        · obtain ⟨ns, eo, ens⟩ := opOf_some c2
          have x34 := Ext.trans x3 x4
          have hq4 : H4 q = some (.tup (.str (wordOf line) :: ns.map .int)) := by
            rw [x34 _ _ hq]
            show some (HO.tup (V.str (wordOf line) :: (numsOf line).map numV)) = _
            rw [ens, List.map_map]
            rfl
          have nqf : q ≠ fl := fun z => by
            rw [z, hf2] at hq
            cases hq
          have nfr : fl ≠ r := fun z => by
            rw [z, hR2.obj] at hf2
            cases hf2
          have nfl2 : fl ≠ l := fun z => by
            have y := hR.lst
            rw [← z, nfl] at y
            cases y
          refine ⟨_, rfl, .inl ⟨rfl, _, SqL.of (x34 _ _ hf2)⟩, _, rfl, fl, vs, _, rfl, rfl, x34 _ _ hf2, by omega, ?_⟩
          have hR4 := hR2.ext x34
          have k5 : TK H4 (upd H4 fl (.lst (vs ++ [.ref q]))) := TK.put fun xs z => by
            rw [x34 _ _ hf2] at z
            cases z
          have hq5 := k5 _ _ hq4
          have ht5 := TpL.mono (TK.trans (TK.of x34) k5) _ _ ht2
          have x5 : ExtB r H (upd H4 fl (.lst (vs ++ [.ref q]))) := ExtB.putN (ExtB.trans x2 (ExtB.of x34)) nfl
          have hR5 : RdAt K (upd H4 fl (.lst (vs ++ [.ref q]))) r dx l rows p2 := ⟨(upd_ne nfr.symm).trans hR4.obj, (upd_ne nfl2.symm).trans hR4.lst⟩
          have hf5 : (upd H4 fl (.lst (vs ++ [.ref q]))) fl = some (.lst (vs ++ [.ref q])) := upd_same
          generalize upd H4 fl (.lst (vs ++ [.ref q])) = H5 at hq5 ht5 x5 hR5 hf5 ⊢
          refine ⟨_, rfl, r, cR K, dx, _, _, rfl, hR5.obj, T.rCls, T.rPla, rf_place l p2, _, _, rfl, rfl, dx, _, hR5.obj, by show 2 < 1000; decide, ?_⟩
          rw [rf_put l p2 _ (p2 + 1) (by omega)]
          have k6 : TK H5 (upd H5 r (.ins (cR K) dx (rf l (p2 + 1)))) := TK.put fun xs z => by
            rw [hR5.obj] at z
            cases z
          have hR6 : RdAt K (upd H5 r (.ins (cR K) dx (rf l (p2 + 1)))) r dx l rows (p2 + 1) := ⟨upd_same, (upd_ne hR5.ne).trans hR5.lst⟩
          have hf6 : (upd H5 r (.ins (cR K) dx (rf l (p2 + 1)))) fl = some (.lst (vs ++ [.ref q])) := (upd_ne nfr).trans hf5
          have x6 : ExtB r H (upd H5 r (.ins (cR K) dx (rf l (p2 + 1)))) := ExtB.put x5
          have ht6 : TpL (upd H5 r (.ins (cR K) dx (rf l (p2 + 1)))) (vs ++ [.ref q]) ((ops ++ [(wordOf line, ns)]).map opD) := by
            rw [List.map_append]
            exact TpL.app (TpL.mono k6 _ _ ht5) (.cons (Tp.of_op (o := (wordOf line, ns)) (k6 _ _ hq5)) .nil)
          generalize upd H5 r (.ins (cR K) dx (rf l (p2 + 1))) = H6 at hR6 hf6 x6 ht6 ⊢
          refine ⟨_, rfl, r, dx, _, rfl, hR6.obj, no1 _, r, dx, l, rows, p2 + 1, rfl, hR6, hz, lt, itemP fun v H7 x7 hI7 => ?_⟩
          refine ⟨rows.length - (p2 + 1), by omega, p2 + 1, ops ++ [(wordOf line, ns)], vs ++ [.ref q], v, rfl, rfl, by omega, lt, ExtB.trans x6 (ExtB.of x7), hR6.ext x7, x7 _ _ hf6, TpL.mono (TK.of x7) _ _ ht6, hI7, ?_, ?_⟩
          · rw [e2, ed, take_op nst eo]
            exact pre_snoc ops (wordOf line, ns)
          · rw [List.length_append]
            show _ + 1 ≤ _
            omega
        · have eo := opOf_none (Bool.eq_false_iff.mpr c2)
          have z : takeOps (rows.drop p) p = .error (p2 + 1) := by
            rw [e2, ed, take_bad nst eo]
            rfl
          rw [z] at k
          have hR4 := hR2.ext (Ext.trans x3 x4)
          exact ⟨_, rfl, r, dx, _, rfl, hR4.obj, no2 _, r, dx, l, p2, rfl, hR4.obj, fun d H' x e => k d H' (ExtB.trans x2 (ExtB.of (Ext.trans (Ext.trans x3 x4) x))) e⟩
      · have st : wordOf line = "thread" ∨ wordOf line = "end" := by
          have z : ¬ (!inV (.str (wordOf line)) [V.str "thread", V.str "end"]) = true := c
          rw [einv, Bool.not_eq_true', decide_eq_false_iff_not, Classical.not_not] at z
          exact z
        exact ⟨_, rfl, done (by rw [ed, take_stop st]) x3⟩
/-! ### all_threads -/
/-- a thread whose program is not the list at m -/
def ThN (m : Addr) (H : Hp) (v : V) (t : Thr) : Prop := ∃ p l vs, v = .ref p ∧ H p = some (.tup [.int t.1, .ref l]) ∧ H l = some (.lst vs) ∧ l ≠ m ∧ TpL H vs (t.2.map opD)
theorem ThN.thr {m : Addr} {H : Hp} {v : V} {t : Thr} (h : ThN m H v t) : ThR H v t := by
  obtain ⟨p, l, vs, e, h1, h2, _, h3⟩ := h
  exact ⟨p, l, vs, e, h1, h2, h3⟩
theorem ThN.keep {m : Addr} {H H' : Hp} {v : V} {t : Thr} (h : ThN m H v t) (k1 : TK H H') (k2 : ∀ b xs, b ≠ m → H b = some (.lst xs) → H' b = some (.lst xs)) : ThN m H' v t := by
  obtain ⟨p, l, vs, e, h1, h2, ne, h3⟩ := h
  exact ⟨p, l, vs, e, k1 _ _ h1, k2 _ _ ne h2, ne, TpL.mono k1 _ _ h3⟩
theorem paired_imp {α β : Type} {F G : α → β → Prop} (k : ∀ a b, F a b → G a b) : ∀ {l₁ : List α} {l₂ : List β}, Paired F l₁ l₂ → Paired G l₁ l₂
  | _, _, .nil => .nil
  | _, _, .cons r t => .cons (k _ _ r) (paired_imp k t)
theorem paired_app {α β : Type} {F : α → β → Prop} : ∀ {l₁ m₁ : List α} {l₂ m₂ : List β}, Paired F l₁ l₂ → Paired F m₁ m₂ → Paired F (l₁ ++ m₁) (l₂ ++ m₂)
  | _, _, _, _, .nil, s => s
  | _, _, _, _, .cons r t, s => .cons r (paired_app t s)
def spAll (K : Fg) : Sp := fun vs H Q E => ∃ r dx l rows p, vs = [.ref r] ∧ RdAt K H r dx l rows p ∧ RowsZ rows ∧ NoRep rows ∧ p ≤ rows.length ∧
  (match readThreads (rows.drop p) p [] with
    | .error n => ∀ d H', ExtB r H H' → H' d = some (.xd [("line", .int (n : Nat))]) → E (.ref (cP K)) (some d) H'
    | .ok ths => ∀ H' fl vs, ExtB r H H' → H' fl = some (.lst vs) → Paired (ThR H') vs ths → Q (.ref fl) H')
theorem scRAll : FnScope ["self", "found", "socket"] ["self"] (defScope sRAll) := ⟨rfl, rfl, rfl, by decide +kernel, rfl, by decide +kernel, by decide +kernel⟩
theorem f_all (T : Txt K mg w) : FnB (L2.CX P w) P w K mg base 5 (mA "LineReader" "all_threads" K) (spAll K) := by
  refine fnB_of (d := dM "LineReader" "all_threads" "LineReader.all_threads" sRAll) (i := 30) T rfl scRAll (fun _ _ _ _ _ _ us hl => match us, hl with | [_], _ => rfl) (fun vs H Q E h => ?_) (fun f cdv A outer s H vs Q E hr h => ?_)
  · obtain ⟨r, dx, l, rows, p, rfl, _⟩ := h
    rfl
  · obtain ⟨r, dx, l, rows, p, rfl, hR, hz, hn, hp, k⟩ := h
    have tk : Takes (cxOf (L2.CX P w) P w K mg base ["self", "found", "socket"] "LineReader.all_threads" (defScope sRAll) f cdv A outer s H E) (fun cls d _ H => E cls d H) := takes_of rfl rfl rfl rfl
    refine ⟨_, (pss_cons (ps_set (i := 1) scRAll.nd (by rfl) (by first | exact Or.inl rfl | exact Or.inr rfl) (pe_lst pa_nil))
      (pss_cons (ps_while (passes_of rfl) (pt_cmp (pc_notN (pe_mB0  (pv 0) T.rCls (T.rMet "item" (by decide +kernel)) (f_item T) hr (by decide) L2.pass0))) (pss_cons (ps_set (i := 2) scRAll.nd (by rfl) (by first | exact Or.inl rfl | exact Or.inr rfl) (pe_ix ix_list (pe_mB (E := E) (pv 0) T.rCls (T.rMet "read_numbers" (by decide +kernel)) (f_nums T) hr (by decide) (passes_call tk fun _ _ _ _ h => h) (pa_cons pe_str (pa_cons pe_int pa_nil))) pe_int (fun _ _ => rfl)))
      (pss_one (ps_expr (pe_bm PySem.F.plainAttrs_list PySem.F.slot_list_append PySem.F.type_list_append mt_append (pv 1) (pa_cons (pe_tup (pa_cons (pv 2) (pa_cons (pe_mB (E := E) (pv 0) T.rCls (T.rMet "program" (by decide +kernel)) (f_prog T) hr (by decide) (passes_call tk fun _ _ _ _ h => h) (pa_cons pe_int pa_nil)) pa_nil))) pa_nil))))))
      (pss_one (ps_ret (pv 1))))), ?_⟩
    have en := sizeLine_eq
    have hz1 := hz.1
    have no1 : ∀ p, List.lookup ("item" : Str) (rf l p) = none := fun p => rf_no (by decide +kernel) (by decide +kernel)
    have no2 : ∀ p, List.lookup ("read_numbers" : Str) (rf l p) = none := fun p => rf_no (by decide +kernel) (by decide +kernel)
    have no3 : ∀ p, List.lookup ("program" : Str) (rf l p) = none := fun p => rf_no (by decide +kernel) (by decide +kernel)
    refine ⟨by show 0 ≤ sizeLine; omega, fun fl nfl => ?_⟩
    have x0 : Ext H (upd H fl (.lst [])) := Ext.new Ext.rfl' nfl
    have hR0 := hR.ext x0
    have nfl2 : fl ≠ l := fun z => by
      have y := hR.lst
      rw [← z, nfl] at y
      cases y
    have nfr : fl ≠ r := fun z => by
      have y := hR.obj
      rw [← z, nfl] at y
      cases y
    refine ⟨fun m σ' H' => ∃ p2 acc vs w1, σ' = [some (.ref r), some (.ref fl), w1] ∧ m = rows.length - p2 ∧ p2 ≤ rows.length ∧ ExtB r H H' ∧ RdAt K H' r dx l rows p2 ∧ H' fl = some (.lst vs) ∧ Paired (ThN fl H') vs acc ∧
      readThreads (rows.drop p) p [] = readThreads (rows.drop p2) p2 acc ∧ (acc = [] ∨ Stop rows p2) ∧ vs.length ≤ p2, ⟨_, p, [], [], none, rfl, rfl, hp, ExtB.of x0, hR0, upd_same, .nil, rfl, .inl rfl, Nat.zero_le _⟩, ?_⟩
    rintro m σ' H2 ⟨p2, acc, vs, w1, rfl, rfl, h2, x2, hR2, hf2, ht2, e2, hst, hl2⟩
    refine ⟨_, rfl, r, dx, _, rfl, hR2.obj, no1 p2, r, dx, l, rows, p2, rfl, hR2, hz, h2, itemP fun v H3 x3 hI => ⟨_, rfl, ?_⟩⟩
    have hR3 := hR2.ext x3
    have hf3 := x3 _ _ hf2
    have xB3 := ExtB.trans x2 (ExtB.of x3)
    have ht3 : Paired (ThN fl H3) vs acc := paired_imp (fun a b h => h.keep (TK.of x3) fun b xs _ e => x3 _ _ e) ht2
    unfold ItemR at hI
    cases e : rows[p2]? with
    | none =>
      rw [e] at hI
      subst hI
      have ed : rows.drop p2 = [] := List.drop_eq_nil_of_le (List.getElem?_eq_none_iff.mp e)
      refine itF (by decide) ⟨_, rfl, ?_⟩
      rw [e2, ed, read_nil] at k
      exact k H3 fl vs xB3 hf3 (paired_imp (fun a b h => h.thr) ht3)
    | some line =>
      rw [e] at hI
      obtain ⟨q0, rfl, _⟩ := hI
      obtain ⟨lt, el⟩ := List.getElem?_eq_some_iff.mp e
      have ed : rows.drop p2 = line :: rows.drop (p2 + 1) := by rw [List.drop_eq_getElem_cons lt, el]
      refine itT (by simp) ⟨fun σ' H' => ∃ m', m' < rows.length - p2 ∧ ∃ p2 acc vs w1, σ' = [some (.ref r), some (.ref fl), w1] ∧ m' = rows.length - p2 ∧ p2 ≤ rows.length ∧ ExtB r H H' ∧ RdAt K H' r dx l rows p2 ∧ H' fl = some (.lst vs) ∧ Paired (ThN fl H') vs acc ∧
        readThreads (rows.drop p) p [] = readThreads (rows.drop p2) p2 acc ∧ (acc = [] ∨ Stop rows p2) ∧ vs.length ≤ p2, fun _ _ h => h, ?_⟩
      refine ⟨_, rfl, r, dx, _, rfl, hR3.obj, no2 p2, r, dx, l, rows, p2, "thread", 1, rfl, hR3, hz, h2, ?_⟩
      cases en2 : numbersOf line "thread" 1 with
      | none =>
        have z : ((rows[p2]?).bind fun line => numbersOf line "thread" 1) = none := by
          rw [e]
          exact en2
        rw [z]
        have er : readThreads (rows.drop p) p [] = .error (p2 + 1) := by
          rw [e2, ed]
          by_cases c : wordOf line = "thread"
          · exact read_thread_bad c en2
          · rcases hst with rfl | hs
            · exact read_first c
            · rcases hs line e with h | h
              · exact absurd h c
              · exact read_bad c (op_end h)
        rw [er] at k
        exact fun d H' x e => k d H' (ExtB.trans xB3 (ExtB.of x)) e
      | some ns =>
        have z : ((rows[p2]?).bind fun line => numbersOf line "thread" 1) = some ns := by
          rw [e]
          exact en2
        rw [z]
        have ew : wordOf line = "thread" := by
          unfold numbersOf at en2
          split at en2
          · rename_i c
            exact c.1
          · cases en2
        obtain ⟨n0, nr, ens⟩ : ∃ n0 nr, ns = n0 :: nr := by
          unfold numbersOf at en2
          split at en2
          · rename_i c
            have y := congrArg List.length (allSome_map en2)
            rw [nums_len, List.length_map] at y
            cases ns with
            | nil =>
              have y2 : (tailOf line).length = 0 := y
              omega
            | cons a b => exact ⟨a, b, rfl⟩
          · cases en2
        intro H4 q x4 hR4 hq _
        have hf4 : H4 fl = some (.lst vs) := x4 _ _ nfr hf3
        have kk4 : TK H3 H4 := TK.ofB x4 fun xs z => by
          rw [hR3.obj] at z
          cases z
        have ht4 : Paired (ThN fl H4) vs acc := paired_imp (fun a b h => h.keep kk4 fun b xs _ e => x4 _ _ (fun z => by rw [z, hR3.obj] at e; cases e) e) ht3
        have xB4 := ExtB.trans xB3 x4
        refine ⟨q, _, 0, .int n0, rfl, rfl, SqL.of hq, by rw [ens]; exact atI_nat (j := 0) rfl, ?_⟩
        refine ⟨_, rfl, .inl ⟨rfl, _, SqL.of hf4⟩, ?_⟩
        refine ⟨_, rfl, _, rfl, r, dx, _, rfl, hR4.obj, no3 _, r, dx, l, rows, p2 + 1, 0, rfl, hR4, hz, hn, lt, ?_⟩
        have er : readThreads (rows.drop p) p [] = match takeOps (rows.drop (p2 + 1)) (p2 + 1) with
            | .error e => .error e
            | .ok (os, q) => readThreads ((rows.drop (p2 + 1)).drop (q - (p2 + 1))) q (acc ++ [(n0, [] ++ os)]) := by
          rw [e2, ed, read_thread ew en2, ens]
          exact read_take _ _ acc n0 []
        cases et : takeOps (rows.drop (p2 + 1)) (p2 + 1) with
        | error n =>
          rw [et] at er
          rw [er] at k
          exact fun d H' x e => k d H' (ExtB.trans xB4 x) e
        | ok y =>
          obtain ⟨ops, p3⟩ := y
          rw [et] at er
          obtain ⟨a1, a2, a3, a4⟩ := take_ok et
          rw [List.length_drop] at a2
          intro H5 pl vs5 x5 hR5 npl hpl ht5
          have nplf : pl ≠ fl := fun z => by
            rw [z, hf4] at npl
            cases npl
          have hf5 := x5 _ _ nfr hf4
          have kk5 : TK H4 H5 := TK.ofB x5 fun xs z => by
            rw [hR4.obj] at z
            cases z
          have hth5 : Paired (ThN fl H5) vs acc := paired_imp (fun a b h => h.keep kk5 fun b xs _ e => x5 _ _ (fun z => by rw [z, hR4.obj] at e; cases e) e) ht4
          refine ⟨by show 2 ≤ sizeLine; omega, fun tp ntp => ?_⟩
          have x6 : Ext H5 (upd H5 tp (.tup [.int n0, .ref pl])) := Ext.new Ext.rfl' ntp
          have htp : (upd H5 tp (.tup [.int n0, .ref pl])) tp = some (.tup [.int n0, .ref pl]) := upd_same
          generalize upd H5 tp (.tup [.int n0, .ref pl]) = H6 at x6 htp ⊢
          have hf6 := x6 _ _ hf5
          refine ⟨fl, vs, _, rfl, rfl, hf6, by omega, ?_⟩
          have k7 : TK H6 (upd H6 fl (.lst (vs ++ [.ref tp]))) := TK.put fun xs z => by
            rw [hf6] at z
            cases z
          have k57 : TK H5 (upd H6 fl (.lst (vs ++ [.ref tp]))) := TK.trans (TK.of x6) k7
          have hR6 := hR5.ext x6
          refine ⟨rows.length - p3, by omega, p3, acc ++ [(n0, [] ++ ops)], vs ++ [.ref tp], _, rfl, rfl, by omega, ExtB.putN (ExtB.trans (ExtB.trans xB4 x5) (ExtB.of x6)) nfl, ⟨(upd_ne nfr.symm).trans hR6.obj, (upd_ne nfl2.symm).trans hR6.lst⟩, upd_same, ?_, ?_, .inr ?_, ?_⟩
          · refine paired_app (paired_imp (fun a b h => h.keep k57 fun b xs nb e => (upd_ne nb).trans (x6 _ _ e)) hth5) (.cons ⟨tp, pl, vs5, rfl, k7 _ _ htp, (upd_ne nplf).trans (x6 _ _ hpl), nplf, ?_⟩ .nil)
            exact TpL.mono k57 _ _ ht5
          · rw [er]
            show readThreads ((rows.drop (p2 + 1)).drop (p3 - (p2 + 1))) p3 _ = _
            rw [List.drop_drop]
            have z : p2 + 1 + (p3 - (p2 + 1)) = p3 := by omega
            rw [z]
          · intro l' e'
            refine a3 l' ?_
            rw [List.getElem?_drop]
            have z : p2 + 1 + (p3 - (p2 + 1)) = p3 := by omega
            rw [z]
            exact e'
          · rw [List.length_append]
            show _ + 1 ≤ _
            omega
end
end Hf
end
section
set_option maxHeartbeats 4000000
/-! D8: a text read as a machine. -/
namespace Hf
open PySem PySem.Spec PyProof.Rows L2
def preH (hs : List (List Int)) : Except Nat (List (List Int)) → Except Nat (List (List Int))
  | .error e => .error e
  | .ok r => .ok (hs ++ r)
theorem preH_snoc (hs : List (List Int)) (ns : List Int) (x : Except Nat (List (List Int))) : preH hs (match x with
      | .error e => .error e
      | .ok r => .ok (ns :: r)) = preH (hs ++ [ns]) x := by
  cases x with
  | error e => rfl
  | ok r =>
    show Except.ok (hs ++ ns :: r) = Except.ok ((hs ++ [ns]) ++ r)
    rw [List.append_assoc] <;> rfl
theorem nums_ok {line wd : Str} {most : Nat} {ns : List Int} (h : numbersOf line wd most = some ns) : ns ≠ [] ∧ ns.length ≤ most := by
  unfold numbersOf at h
  split at h
  · rename_i c
    have y := congrArg List.length (allSome_map h)
    rw [nums_len, List.length_map] at y
    refine ⟨fun e => ?_, by omega⟩
    rw [e] at y
    have y2 : (tailOf line).length = 0 := y
    omega
  · cases h
theorem fault_ok {rows : List Str} {p q : Nat} {f : Option Str} (h : readFault rows p = .ok (f, q)) : (f = none ∨ ∃ x, f = some x ∧ x ∈ faults) ∧ (p ≤ rows.length → q ≤ rows.length) := by
  unfold readFault at h
  split at h
  · cases h
    exact ⟨.inl rfl, id⟩
  · rename_i l e
    have lt := (List.getElem?_eq_some_iff.mp e).1
    split at h
    · split at h
      · split at h
        · rename_i hx
          cases h
          exact ⟨.inr ⟨_, rfl, hx⟩, fun _ => lt⟩
        · cases h
      · cases h
    · cases h
      exact ⟨.inl rfl, id⟩
theorem rowsZ_split {txt : Str} (h : txt.length ≤ 80000) : RowsZ (Txt.split txt nl) := by
  have l : txt.cps.toList.length = txt.length := Array.length_toList
  rw [split_nl]
  refine ⟨?_, fun x hx => ?_⟩
  · rw [List.length_map]
    have := pieces_len 10 txt.cps.toList
    omega
  · obtain ⟨q, hq, rfl⟩ := List.mem_map.mp hx
    rw [SX.S_len]
    have := pieces_small 10 _ q hq
    omega
def spParse (K : Fg) : Sp := fun vs H Q E => ∃ txt, vs = [.str txt] ∧ txt.length ≤ 80000 ∧ NoRep (Txt.split txt nl) ∧
  (match saidOf (Txt.split txt nl) with
    | .line n => ∀ d H', Ext H H' → H' d = some (.xd [("line", .int (n : Nat))]) → E (.ref (cP K)) (some d) H'
    | .mach nm => ∀ d H', Ext H H' → H' d = some (.xd [("name", .str nm)]) → E (.ref (cI K)) (some d) H'
    | .ok s => ∀ H' x, Ext H H' → MachAt K H' x s → H x = none → Q (.ref x) H')
section
variable {P : Program} {w : World} {K : Fg} {mg : Str → Option Value} {base : Heap}
theorem scParse : FnScope ["text", "reader", "settings", "sockets", "classes", "pages", "batch", "spare", "slots", "stops", "fault", "threads", "word"] ["text"] (defScope sParse) := ⟨rfl, rfl, rfl, by decide +kernel, rfl, by decide +kernel, by decide +kernel⟩
theorem f_parse (T : Txt K mg w) : FnF (L2.CX P w) P w K mg base 8 "parse_machine" sParse ["text"] (spParse K) := by
  refine fnFX_of (i := 31) T rfl scParse (fun vs H Q E h => ?_) (fun f cdv A outer s H vs Q E hr h => ?_)
  · obtain ⟨txt, rfl, _⟩ := h
    rfl
  · obtain ⟨txt, rfl, hlen, hn, k⟩ := h
    have tk : Takes (cxOf (L2.CX P w) P w K mg base ["text", "reader", "settings", "sockets", "classes", "pages", "batch", "spare", "slots", "stops", "fault", "threads", "word"] "parse_machine" (defScope sParse) f cdv A outer s H E) (fun cls d _ H => E cls d H) := takes_of rfl rfl rfl rfl
    obtain ⟨rfd, rps, RF, RB⟩ := f_RInit (P := P) (base := base) T
    obtain ⟨mfd, mps, MF, mgB, MB⟩ := f_MInit (P := P) (base := base) T
    refine ⟨_, (pss_cons (ps_if (pt_not (pt_val (pe_callB call_isi (by rfl) (fr T "isinstance") boot_isinstance (pa_cons (pv 0) (pa_cons (pe_ty (by rfl) (fr T "str") boot_str) pa_nil))))) (pss_one (ps_raiseX (by rfl) T.xP (f_PE T) hr (by decide) tk (by rfl) (T.glo "ParseError" (by decide +kernel)) pe_non)) pss_nil)
      (C8.pss_cut (ps_set (i := 1) scParse.nd (by rfl) (by first | exact Or.inl rfl | exact Or.inr rfl) (pe_make T.rMk RF (hr.mono (by decide)) (by rfl) (T.glo "LineReader" (by decide +kernel)) RB .nil (L2.pass0 (X := _)) (pa_cons (pv 0) pa_nil)))
      (C8.pss_cut (ps_setLcX (i := 2) (own := [("word", 12)]) (g := gName 12) (E := E) rfl rfl tk (by rfl) scParse.nd (by rfl) (by rfl) (sw_true rfl rfl rfl (by decide +kernel)) (pi_tup (pe_gl (by rfl) (T.glo "HEADS" (by decide +kernel)))) (blkOk_by (N := ["text", "reader", "settings", "sockets", "classes", "pages", "batch", "spare", "slots", "stops", "fault", "threads", "word"]) (sc := defScope sParse) (by decide +kernel)) (fun _ _ _ _ _ => by exact (pg_name (i := 12) scParse.nd (by rfl) (Or.inl (by rfl)))) (fun _ _ _ _ _ hx => by exact (pe_mB (E := E) (pv 1) T.rCls (T.rMet "read_numbers" (by decide +kernel)) (f_nums T) hr (by decide) hx (pa_cons (pv 12) (pa_cons (pe_ifExp (pt_cmpR op_eq (pv 12) pe_str (nomark _)) pe_int pe_int) pa_nil)))))
      (C8.pss_cut (ps_asg (pv 2) (pg_unl (by rfl) (pgs_cons (pg_name (i := 3) scParse.nd (by rfl) (Or.inl (by rfl))) (pgs_cons (pg_name (i := 4) scParse.nd (by rfl) (Or.inl (by rfl))) (pgs_cons (pg_name (i := 5) scParse.nd (by rfl) (Or.inl (by rfl))) (pgs_cons (pg_name (i := 6) scParse.nd (by rfl) (Or.inl (by rfl))) (pgs_cons (pg_name (i := 7) scParse.nd (by rfl) (Or.inl (by rfl))) (pgs_cons (pg_name (i := 8) scParse.nd (by rfl) (Or.inl (by rfl))) (pgs_cons (pg_name (i := 9) scParse.nd (by rfl) (Or.inl (by rfl))) pgs_nil)))))))))
      (C8.pss_cut (ps_set (i := 10) scParse.nd (by rfl) (by first | exact Or.inl rfl | exact Or.inr rfl) (pe_mB0 (E := E) (pv 1) T.rCls (T.rMet "fault_word" (by decide +kernel)) (f_fword T) hr (by decide) (passes_call tk fun _ _ _ _ h => h)))
      (C8.pss_cut (ps_set (i := 11) scParse.nd (by rfl) (by first | exact Or.inl rfl | exact Or.inr rfl) (pe_mB0 (E := E) (pv 1) T.rCls (T.rMet "all_threads" (by decide +kernel)) (f_all T) hr (by decide) (passes_call tk fun _ _ _ _ h => h)))
      (pss_one (ps_ret (pe_makeK T.mMk MF (hr.mono (by decide)) (by rfl) (T.glo "Machine" (by decide +kernel)) MB (passes_call tk fun _ _ _ _ h => h) (pa_cons (pe_ix ix_list (pv 3) pe_int (fun _ _ => rfl)) (pa_cons (pv 4) (pa_cons (pv 11) pa_nil))) (pk_cons (pe_ix ix_list (pv 5) pe_int (fun _ _ => rfl)) (pk_cons (pe_ix ix_list (pv 6) pe_int (fun _ _ => rfl)) (pk_cons (pe_ix ix_list (pv 7) pe_int (fun _ _ => rfl)) (pk_cons (pe_ix ix_list (pv 8) pe_int (fun _ _ => rfl)) (pk_cons (pe_ix ix_list (pv 9) pe_int (fun _ _ => rfl)) (pk_cons (pv 10) pk_nil))))))))))))))), ?_⟩
    have hz := rowsZ_split hlen
    generalize hrows : Txt.split txt nl = rows at hn k hz
    have kl : ∀ n, readM rows = .error n → ∀ d H', Ext H H' → H' d = some (.xd [("line", .int (n : Nat))]) → E (.ref (cP K)) (some d) H' := fun n e => by
      have z : saidOf rows = .line n := by
        unfold saidOf
        rw [e]
      rw [z] at k
      exact k
    have km : ∀ s nm, readM rows = .ok s → machineErr s = some nm → ∀ d H', Ext H H' → H' d = some (.xd [("name", .str nm)]) → E (.ref (cI K)) (some d) H' := fun s nm e e2 => by
      have z : saidOf rows = .mach nm := by
        unfold saidOf
        rw [e]
        show (match machineErr s with | some nm => Said.mach nm | none => Said.ok s) = _
        rw [e2]
      rw [z] at k
      exact k
    have kok : ∀ s, readM rows = .ok s → machineErr s = none → ∀ H' x, Ext H H' → MachAt K H' x s → H x = none → Q (.ref x) H' := fun s e e2 => by
      have z : saidOf rows = .ok s := by
        unfold saidOf
        rw [e]
        show (match machineErr s with | some nm => Said.mach nm | none => Said.ok s) = _
        rw [e2]
      rw [z] at k
      exact k
    clear k
    have en := sizeLine_eq
    refine ⟨_, rfl, _, _, _, _, true, rfl, .ty "str", .base (.str txt), kit_ty (by decide +kernel), _, rfl, itF (by decide) ?_⟩
    -- the reader
    refine ⟨fun σ' H' => ∃ r dx l, σ' = [some (.str txt), some (.ref r), none, none, none, none, none, none, none, none, none, none, none] ∧ H r = none ∧ Ext H H' ∧ RdAt K H' r dx l rows 0, ?_, ?_⟩
    · refine ⟨_, rfl, fun r dx nr ndx ne => ⟨r, dx, txt, rfl, upd_same, by omega, fun H' l x hR => ⟨rfl, r, dx, l, rfl, nr, ?_, by rw [← hrows]; exact hR⟩⟩⟩
      refine fun b o e => x b o (ne_of_none e nr) ?_
      rw [upd_ne (ne_of_none e nr), upd_ne (ne_of_none e ndx)]
      exact e
    rintro σ' H1 ⟨r, dx, l, rfl, nr, x1, hR1⟩
    have no1 : ∀ p, List.lookup ("read_numbers" : Str) (rf l p) = none := fun p => rf_no (by decide +kernel) (by decide +kernel)
    have no2 : ∀ p, List.lookup ("fault_word" : Str) (rf l p) = none := fun p => rf_no (by decide +kernel) (by decide +kernel)
    have no3 : ∀ p, List.lookup ("all_threads" : Str) (rf l p) = none := fun p => rf_no (by decide +kernel) (by decide +kernel)
    -- the seven heads
    refine ⟨fun σ' H' => ∃ D hs vs, σ' = [some (.str txt), some (.ref r), some (.ref D), none, none, none, none, none, none, none, none, none, none] ∧ Ext H H' ∧ RdAt K H' r dx l rows 7 ∧ 7 ≤ rows.length ∧ H' D = some (.lst vs) ∧ readHeads rows 0 heads = .ok hs ∧
      Paired (fun v (ns : List Int) => ∃ q, v = .ref q ∧ H' q = some (.lst (ns.map V.int)) ∧ ns ≠ [] ∧ ns.length ≤ 3) vs hs ∧ vs.length = 7, ?_, ?_⟩
    · refine ⟨_, rfl, ⟨_, T.hds H1⟩, fun D nD => ?_⟩
      have lR : r ≠ D := ne_of_none hR1.obj nD
      have lL : l ≠ D := ne_of_none hR1.lst nD
      have nD0 : H D = none := Ext.free x1 nD
      refine lc_it (walk_tup (K := K) (a := gA "HEADS" K) (xs := heads.map V.str)) (fun i H' => ∃ hs vs, Ext H H' ∧ RdAt K H' r dx l rows i ∧ i ≤ rows.length ∧ H' D = some (.lst vs) ∧ readHeads rows 0 heads = preH hs (readHeads rows i (heads.drop i)) ∧
        Paired (fun v (ns : List Int) => ∃ q, v = .ref q ∧ H' q = some (.lst (ns.map V.int)) ∧ q ≠ D ∧ ns ≠ [] ∧ ns.length ≤ 3) vs hs ∧ vs.length = i) ?_ (fun i H' _ _ => T.hds H') ?_ ?_
      · refine ⟨[], [], Ext.new x1 nD, ⟨(upd_ne lR).trans hR1.obj, (upd_ne lL).trans hR1.lst⟩, Nat.zero_le _, upd_same, ?_, .nil, rfl⟩
        show _ = preH [] (readHeads rows 0 heads)
        cases readHeads rows 0 heads <;> rfl
      · rintro i x H2 H3 hi ⟨hs, vs, x2, hR2, hi2, hD2, e2, hp2, hl2⟩ ⟨rfl, ex⟩
        rw [List.getElem?_map] at ex
        obtain ⟨wd, ew, rfl⟩ := Option.map_eq_some_iff.mp ex
        have ed : heads.drop i = wd :: heads.drop (i + 1) := by
          obtain ⟨lt, el⟩ := List.getElem?_eq_some_iff.mp ew
          rw [List.drop_eq_getElem_cons lt, el]
        refine ⟨rfl, _, rfl, r, dx, _, rfl, hR2.obj, no1 i, _, rfl, _, rfl, rfl, _, rfl, ?_⟩
        have hm3 : mostOf wd ≤ 3 := by
          unfold mostOf
          split <;> decide
        have step : ∀ most : Nat, most = mostOf wd → spReadNums K [.ref r, .str wd, .int most] H3 (fun y H4 => ∃ acc, H4 D = some (.lst acc) ∧ acc.length < sizeLine ∧ ∃ hs vs, Ext H (upd H4 D (.lst (acc ++ [y]))) ∧ RdAt K (upd H4 D (.lst (acc ++ [y]))) r dx l rows (i + 1) ∧ i + 1 ≤ rows.length ∧ (upd H4 D (.lst (acc ++ [y]))) D = some (.lst vs) ∧ readHeads rows 0 heads = preH hs (readHeads rows (i + 1) (heads.drop (i + 1))) ∧
            Paired (fun v (ns : List Int) => ∃ q, v = .ref q ∧ (upd H4 D (.lst (acc ++ [y]))) q = some (.lst (ns.map V.int)) ∧ q ≠ D ∧ ns ≠ [] ∧ ns.length ≤ 3) vs hs ∧ vs.length = i + 1) E := by
          rintro most rfl
          refine ⟨r, dx, l, rows, i, wd, _, rfl, hR2, hz, hi2, ?_⟩
          cases en2 : (rows[i]?).bind fun line => numbersOf line wd (mostOf wd) with
          | none =>
            have er : readM rows = .error (i + 1) := by
              unfold readM
              rw [e2, ed]
              show (match preH hs (match (rows[i]?).bind fun line => numbersOf line wd (mostOf wd) with
                | none => .error (i + 1)
                | some ns => _) with | .error e => _ | .ok hs => _) = _
              rw [en2]
              rfl
            exact fun d H' x e => kl _ er d H' (Ext.trans x2 x) e
          | some ns =>
            obtain ⟨line, el, en3⟩ := Option.bind_eq_some_iff.mp en2
            have lt := (List.getElem?_eq_some_iff.mp el).1
            obtain ⟨nn, nl3⟩ := nums_ok en3
            intro H4 q x4 hR4 hq nq
            have hD4 : H4 D = some (.lst vs) := x4 _ _ lR.symm hD2
            have nqD : ¬ q = D := (ne_of_none hD2 nq).symm
            have hi7 : i < 7 := hi
            refine ⟨vs, hD4, by omega, hs ++ [ns], vs ++ [.ref q], Ext.putN (ExtB.gone x2 nr x4) nD0, ⟨(upd_ne lR).trans hR4.obj, (upd_ne lL).trans hR4.lst⟩, lt, upd_same, ?_, ?_, ?_⟩
            · rw [e2, ed, ← preH_snoc]
              show preH hs (match (rows[i]?).bind fun line => numbersOf line wd (mostOf wd) with
                | none => .error (i + 1)
                | some ns => match readHeads rows (i + 1) (heads.drop (i + 1)) with
                  | .error e => .error e
                  | .ok r => .ok (ns :: r)) = _
              rw [en2]
            · refine paired_app (paired_imp (fun a b h => ?_) hp2) (.cons ⟨q, rfl, (upd_ne nqD).trans hq, nqD, nn, by omega⟩ .nil)
              obtain ⟨q', rfl, h1, h2, h3⟩ := h
              have n' : q' ≠ r := fun z => by
                rw [z, hR2.obj] at h1
                cases h1
              exact ⟨q', rfl, (upd_ne h2).trans (x4 _ _ n' h1), h2, h3⟩
            · rw [List.length_append, hl2]
              rfl
        refine ite2 (fun c => step 3 ?_) (fun c => step 1 ?_)
        · unfold mostOf
          rw [if_pos (V.str.inj (of_decide_eq_true c))]
        · unfold mostOf
          rw [if_neg fun z => c (decide_eq_true (congrArg V.str z))]
      · rintro H2 ⟨hs, vs, x2, hR2, hi2, hD2, e2, hp2, hl2⟩
        refine ⟨D, hs, vs, rfl, x2, hR2, hi2, hD2, ?_, paired_imp (fun a b ⟨q, e, h1, _, h3⟩ => ⟨q, e, h1, h3⟩) hp2, hl2⟩
        rw [e2]
        show Except.ok (hs ++ []) = _
        rw [List.append_nil]
    rintro σ' H2 ⟨D, hs, vs, rfl, x2, hR2, hp7, hD2, eh, hpr, hl7⟩
    clear hR1 x1
    match vs, hs, hpr, hl7 with
    | [v0, v1, v2, v3, v4, v5, v6], [h0, h1, h2, h3, h4, h5, h6], .cons ⟨q0, e0, g0, n0, _⟩ (.cons ⟨q1, e1, g1, n1, z1⟩ (.cons ⟨q2, e2, g2, n2, _⟩ (.cons ⟨q3, e3, g3, n3, _⟩ (.cons ⟨q4, e4, g4, n4, _⟩ (.cons ⟨q5, e5, g5, n5, _⟩ (.cons ⟨q6, e6, g6, n6, _⟩ .nil)))))), _ =>
      subst e0 e1 e2 e3 e4 e5 e6
      have notr : ∀ {H' : Hp} {p : Nat} {q : Addr} {xs : List V}, RdAt K H' r dx l rows p → H' q = some (.lst xs) → q ≠ r := fun {H' p q xs} hR e z => by
        rw [z, hR.obj] at e
        cases e
      refine ⟨fun σ' H' => H' = H2 ∧ σ' = [some (.str txt), some (.ref r), some (.ref D), some (.ref q0), some (.ref q1), some (.ref q2), some (.ref q3), some (.ref q4), some (.ref q5), some (.ref q6), none, none, none], ⟨_, rfl, D, _, rfl, SqL.of hD2, rfl, _, _, rfl, _, _, rfl, _, _, rfl, _, _, rfl, _, _, rfl, _, _, rfl, _, _, rfl, rfl, rfl, rfl⟩, ?_⟩
      rintro σ' H' ⟨rfl, rfl⟩
      -- the fault
      cases hf : readFault rows 7 with
      | error n =>
        have er : readM rows = .error n := by
          unfold readM
          rw [eh]
          show (match readFault rows 7 with | .error e => _ | .ok (k, p) => _) = _
          rw [hf]
        refine ⟨fun _ _ => False, ⟨_, rfl, r, dx, _, rfl, hR2.obj, no2 7, r, dx, l, rows, 7, rfl, hR2, hz, hp7, ?_⟩, fun _ _ h => h.elim⟩
        rw [hf]
        exact fun d H' x e => kl _ er d H' (Ext.trans x2 x) e
      | ok y =>
        obtain ⟨kf, p3⟩ := y
        obtain ⟨hfo, hp3⟩ := fault_ok hf
        have hp3 := hp3 hp7
        refine ⟨fun σ' H' => σ' = [some (.str txt), some (.ref r), some (.ref D), some (.ref q0), some (.ref q1), some (.ref q2), some (.ref q3), some (.ref q4), some (.ref q5), some (.ref q6), some (optV kf), none, none] ∧ Ext H H' ∧ RdAt K H' r dx l rows p3 ∧ H' q0 = some (.lst (h0.map V.int)) ∧ H' q1 = some (.lst (h1.map V.int)) ∧ H' q2 = some (.lst (h2.map V.int)) ∧ H' q3 = some (.lst (h3.map V.int)) ∧ H' q4 = some (.lst (h4.map V.int)) ∧ H' q5 = some (.lst (h5.map V.int)) ∧ H' q6 = some (.lst (h6.map V.int)), ⟨_, rfl, r, dx, _, rfl, hR2.obj, no2 7, r, dx, l, rows, 7, rfl, hR2, hz, hp7, ?_⟩, ?_⟩
        · rw [hf]
          exact fun H3 x3 hR3 => ⟨rfl, ExtB.gone x2 nr x3, hR3, x3 _ _ (notr hR2 g0) g0, x3 _ _ (notr hR2 g1) g1, x3 _ _ (notr hR2 g2) g2, x3 _ _ (notr hR2 g3) g3, x3 _ _ (notr hR2 g4) g4, x3 _ _ (notr hR2 g5) g5, x3 _ _ (notr hR2 g6) g6⟩
        clear x2 hR2 g0 g1 g2 g3 g4 g5 g6 hD2
        rintro σ' H3 ⟨rfl, x3, hR3, g0, g1, g2, g3, g4, g5, g6⟩
        -- the threads
        cases ht : readThreads (rows.drop p3) p3 [] with
        | error n =>
          have er : readM rows = .error n := by
            unfold readM
            rw [eh]
            show (match readFault rows 7 with | .error e => _ | .ok (k, p) => (match readThreads (rows.drop p) p [] with | .error e => _ | .ok ths => _)) = _
            rw [hf]
            show (match readThreads (rows.drop p3) p3 [] with | .error e => _ | .ok ths => _) = _
            rw [ht]
          refine ⟨fun _ _ => False, ⟨_, rfl, r, dx, _, rfl, hR3.obj, no3 p3, r, dx, l, rows, p3, rfl, hR3, hz, hn, hp3, ?_⟩, fun _ _ h => h.elim⟩
          rw [ht]
          exact fun d H' x e => kl _ er d H' (ExtB.gone x3 nr x) e
        | ok ths =>
          have er : readM rows = .ok (settOf [h0, h1, h2, h3, h4, h5, h6] ths kf) := by
            unfold readM
            rw [eh]
            show (match readFault rows 7 with | .error e => _ | .ok (k, p) => (match readThreads (rows.drop p) p [] with | .error e => _ | .ok ths => _)) = _
            rw [hf]
            show (match readThreads (rows.drop p3) p3 [] with | .error e => _ | .ok ths => _) = _
            rw [ht]
          obtain ⟨b1, b2⟩ := read_b (B := 0) ht (fun t h => nomatch h)
          rw [List.length_drop] at b1
          rw [List.length_drop] at b2
          refine ⟨fun σ' H' => ∃ tl tvs, σ' = [some (.str txt), some (.ref r), some (.ref D), some (.ref q0), some (.ref q1), some (.ref q2), some (.ref q3), some (.ref q4), some (.ref q5), some (.ref q6), some (optV kf), some (.ref tl), none] ∧ Ext H H' ∧ H' tl = some (.lst tvs) ∧ Paired (ThR H') tvs ths ∧ H' q0 = some (.lst (h0.map V.int)) ∧ H' q1 = some (.lst (h1.map V.int)) ∧ H' q2 = some (.lst (h2.map V.int)) ∧ H' q3 = some (.lst (h3.map V.int)) ∧ H' q4 = some (.lst (h4.map V.int)) ∧ H' q5 = some (.lst (h5.map V.int)) ∧ H' q6 = some (.lst (h6.map V.int)), ⟨_, rfl, r, dx, _, rfl, hR3.obj, no3 p3, r, dx, l, rows, p3, rfl, hR3, hz, hn, hp3, ?_⟩, ?_⟩
          · rw [ht]
            exact fun H4 tl tvs x4 e4 hp4 => ⟨tl, tvs, rfl, ExtB.gone x3 nr x4, e4, hp4, x4 _ _ (notr hR3 g0) g0, x4 _ _ (notr hR3 g1) g1, x4 _ _ (notr hR3 g2) g2, x4 _ _ (notr hR3 g3) g3, x4 _ _ (notr hR3 g4) g4, x4 _ _ (notr hR3 g5) g5, x4 _ _ (notr hR3 g6) g6⟩
          clear x3 hR3 g0 g1 g2 g3 g4 g5 g6
          rintro σ' H4 ⟨tl, tvs, rfl, x4, e4, hp4, g0, g1, g2, g3, g4, g5, g6⟩
          have at0 : ∀ {h : List Int}, h ≠ [] → atI (h.map V.int) 0 = some (V.int (h.headD 0)) := fun {h} ne => by
            cases h with
            | nil => exact absurd rfl ne
            | cons a b => exact atI_nat (j := 0) rfl
          refine ⟨_, rfl, q0, _, 0, _, rfl, rfl, SqL.of g0, at0 n0, _, rfl, _, rfl, ?_⟩
          refine ⟨_, rfl, q2, _, 0, _, rfl, rfl, SqL.of g2, at0 n2, _, rfl, q3, _, 0, _, rfl, rfl, SqL.of g3, at0 n3, _, rfl, q4, _, 0, _, rfl, rfl, SqL.of g4, at0 n4, _, rfl, q5, _, 0, _, rfl, rfl, SqL.of g5, at0 n5, _, rfl, q6, _, 0, _, rfl, rfl, SqL.of g6, at0 n6, _, rfl, rfl, rfl, fun x mx nx nmx ne => ?_⟩
          have x5 : Ext H4 (upd (upd H4 mx (.own x)) x (.ins (cM K) mx [])) := Ext.new (Ext.new Ext.rfl' nmx) ((upd_ne ne.symm).trans nx)
          have e5 : (upd (upd H4 mx (.own x)) x (.ins (cM K) mx [])) x = some (.ins (cM K) mx []) := upd_same
          generalize upd (upd H4 mx (.own x)) x (.ins (cM K) mx []) = H5 at x5 e5 ⊢
          have nxH : H x = none := Ext.free x4 nx
          have hz1 := hz.1
          refine ⟨x, mx, q1, tl, settOf [h0, h1, h2, h3, h4, h5, h6] ths kf, tvs, rfl, e5, x5 _ _ g1, x5 _ _ e4, paired_imp (fun a b h => h.ext x5) hp4, by show h1.length ≤ 100000; omega, by show ths.length ≤ 100000; have : ([] : List Thr).length = 0 := rfl; omega, fun t h => ⟨by have := (b2 t h).1; omega, fun o ho => by have := (b2 t h).2 o ho; omega⟩, hfo, ?_⟩
          cases em : machineErr (settOf [h0, h1, h2, h3, h4, h5, h6] ths kf) with
          | some nm => exact fun d H' xx e => km _ _ er em d H' (ExtB.gone (Ext.trans x4 x5) nxH xx) e
          | none => exact fun H' xx hm => ⟨rfl, kok _ er em H' x (ExtB.gone (Ext.trans x4 x5) nxH xx) hm nxH⟩
theorem c_parse (T : Txt K mg w) : CalX P w K mg base 8 "parse_machine" (spParse K) := (f_parse T).calX T (by decide +kernel) (fun _ _ _ _ _ _ us hl => match us, hl with | [_], _ => rfl)
end
end Hf
end
section
set_option maxHeartbeats 4000000
/-! D9: the law's own reading of a row. -/
namespace Hf
open PySem PySem.Spec PyProof.Rows L2
section
variable {X : Cx}
/-- a list != [] -/
def rNeL0 : R2 := fun x y H Q => ∃ p q xs, x = .ref p ∧ y = .ref q ∧ H p = some (.lst xs) ∧ H q = some (.lst []) ∧ Q (.bl (!xs.isEmpty)) H
theorem op_neL0 (hu : X.A.units + 64 < cLine) : OpR X (compareOp .NotEq) rNeL0 := by
  intro pins s σ H x y v u Q I rx ry h
  obtain ⟨p, q, xs, rfl, rfl, hp, hq, h⟩ := h
  cases rx
  cases ry
  obtain ⟨its, r1, t1, _⟩ := I.list (SqL.of hp)
  obtain ⟨it2, r2, t2, _⟩ := I.list (SqL.of hq)
  cases r2
  cases r1 with
  | nil => exact SeqAt.RcNeAt.lists (e := fun _ => true) t1.isList t2.isList rfl (by omega) (fun j h1 h2 => absurd h2 (Nat.not_lt_zero _)) X.prog X.w _ _ ⟨.bl _, H, I, rfl, h⟩
  | cons a b => exact SeqAt.RcNeAt.lists_lengths t1.isList t2.isList rfl (by omega) X.prog X.w _ _ ⟨.bl _, H, I, rfl, h⟩
/-- a list == [] -/
def rEqL0 : R2 := fun x y H Q => ∃ p q xs, x = .ref p ∧ y = .ref q ∧ H p = some (.lst xs) ∧ H q = some (.lst []) ∧ Q (.bl xs.isEmpty) H
theorem op_eqL0 (hu : X.A.units + 64 < cLine) : OpR X (compareOp .Eq) rEqL0 := by
  intro pins s σ H x y v u Q I rx ry h
  obtain ⟨p, q, xs, rfl, rfl, hp, hq, h⟩ := h
  cases rx
  cases ry
  obtain ⟨its, r1, t1, _⟩ := I.list (SqL.of hp)
  obtain ⟨it2, r2, t2, _⟩ := I.list (SqL.of hq)
  cases r2
  cases r1 with
  | nil => exact SeqAt.eq_listAt (e := fun _ => true) t1.isList t2.isList rfl (by omega) (fun j h1 h2 => absurd h2 (Nat.not_lt_zero _)) ⟨.bl _, H, I, rfl, h⟩
  | cons a b => exact SeqAt.eq_list_lengthsAt t1.isList t2.isList rfl (by omega) ⟨.bl _, H, I, rfl, h⟩
end
def spLNums : Sp := fun vs H Q _ => ∃ line wd, ∃ most : Nat, vs = [.str line, .str wd, .int most] ∧ line.length ≤ 90000 ∧
  (match numbersOf line wd most with
    | none => ∀ H', Ext H H' → Q .non H'
    | some ns => ∀ H' q, Ext H H' → H' q = some (.lst (ns.map .int)) → H q = none → Q (.ref q) H')
section
variable {P : Program} {w : World} {K : Fg} {mg : Str → Option Value} {base : Heap}
theorem scLNums : FnScope ["_law_line", "_law_word", "_law_most", "_law_words", "_law_found", "_law_one", "_law_sign"] ["_law_line", "_law_word", "_law_most"] (defScope sLNums) := ⟨rfl, rfl, rfl, by decide +kernel, rfl, by decide +kernel, by decide +kernel⟩
theorem c_lNums (T : Txt K mg w) : Cal0 P w K mg base 1 "_law_numbers" spLNums := by
  refine cal_of (i := 37) T rfl (by decide +kernel) scLNums (fun _ _ _ _ _ _ us hl => match us, hl with | [_, _, _], _ => rfl) (fun vs H Q E h => ?_) (fun f cdv A outer s H vs Q E hr h => ?_)
  · obtain ⟨line, wd, most, rfl, _⟩ := h
    rfl
  · obtain ⟨line, wd, most, rfl, hl, k⟩ := h
    refine ⟨_, (pss_cons (ps_set (i := 3) scLNums.nd (by rfl) (by first | exact Or.inl rfl | exact Or.inr rfl) (pe_split (pv 0) pe_str))
      (pss_cons (ps_if (PW.pt (pw_or (pt_cmpR op_ne (pe_ix ix_list (pv 3) pe_int (fun _ _ => rfl)) (pv 1) (nomark _)) (pw_or1 (pt_not (pt_chain op_le op_le pe_int (pe_callB call_len_seq (by rfl) (fr T "len") boot_len (pa_cons (pv 3) pa_nil)) (pe_op op_add (pv 2) pe_int)))))) (pss_one (ps_ret pe_non)) pss_nil)
      (pss_cons (ps_set (i := 4) scLNums.nd (by rfl) (by first | exact Or.inl rfl | exact Or.inr rfl) (pe_lst pa_nil))
      (C8.pss_cut (ps_for PassesOwn.never (by rfl) (pi_list (pe_slice sl_list (pv 3) (po_some pe_int) po_none)) (pg_name (i := 5) scLNums.nd (by rfl) (Or.inl (by rfl))) (pss_cons (ps_if (PW.pt (pw_or (pt_cmpR op_eq (pv 5) pe_str (nomark _)) (pw_or (pt_cmpR op_gt (pe_callB call_len_str (by rfl) (fr T "len") boot_len (pa_cons (pv 5) pa_nil)) pe_int (nomark _)) (pw_or1 (pt_cmpR (op_neL0 (room_u hr)) (pe_lc (own := [("_law_sign", 6)]) (g := (gName 6))  (by rfl) scLNums.nd (pi_str (pv 5)) (blkOk_by (N := ["_law_line", "_law_word", "_law_most", "_law_words", "_law_found", "_law_one", "_law_sign"]) (sc := defScope sLNums) (by decide +kernel)) (fun _ _ _ _ _ => by exact (pg_name (i := 6) scLNums.nd (by rfl) (Or.inl (by rfl)))) (fun _ _ _ _ _ => by exact (pts_one (pt_cmpR op_notIn_sign (pv 6) pe_str (by with_unfolding_all rfl)))) (fun _ _ _ _ _ => by exact (pv 6))) (pe_lst pa_nil) (nomark _)))))) (pss_one (ps_ret pe_non)) pss_nil)
      (pss_cons (ps_if (PW.pt (pw_and (pt_cmpR op_ne (pv 5) pe_str (nomark _)) (pw_and1 (pt_cmpR op_eq (pe_ix ix_str (pv 5) pe_int (fun _ _ => rfl)) pe_str (nomark _))))) (pss_one (ps_ret pe_non)) pss_nil)
      (pss_one (ps_expr (pe_bm PySem.F.plainAttrs_list PySem.F.slot_list_append PySem.F.type_list_append mt_append (pv 4) (pa_cons (pe_callTy call_int_str (by rfl) (fr T "int") boot_int (pa_cons (pv 5) pa_nil)) pa_nil)))))))
      (pss_one (ps_ret (pv 4))))))), ?_⟩
    have en := sizeLine_eq
    have kn : numbersOf line wd most = none → ∀ H', Ext H H' → Q .non H' := fun e => by
      rw [e] at k
      exact k
    have ks : ∀ ns, numbersOf line wd most = some ns → ∀ H' q, Ext H H' → H' q = some (.lst (ns.map .int)) → H q = none → Q (.ref q) H' := fun ns e => by
      rw [e] at k
      exact k
    clear k
    have tl := tail_len line
    have e0 : (Txt.split line sp).map V.str = .str (wordOf line) :: (tailOf line).map .str := by rw [split_cons] <;> rfl
    refine ⟨_, rfl, ⟨_, rfl⟩, line, sp, rfl, rfl, by decide +kernel, by omega, fun wl nwl => ?_⟩
    rw [e0]
    have x1 : Ext H (upd H wl (.lst (.str (wordOf line) :: (tailOf line).map .str))) := Ext.new Ext.rfl' nwl
    have hw1 : (upd H wl (.lst (.str (wordOf line) :: (tailOf line).map .str))) wl = some (.lst (.str (wordOf line) :: (tailOf line).map .str)) := upd_same
    generalize upd H wl (.lst (.str (wordOf line) :: (tailOf line).map .str)) = H1 at x1 hw1 ⊢
    have lw : (((V.str (wordOf line) :: (tailOf line).map V.str).length : Nat) : Int) = ((tailOf line).length : Nat) + 1 := by
      rw [List.length_cons, List.length_map]
      omega
    have bad : ¬ (wordOf line = wd ∧ 1 ≤ (tailOf line).length ∧ (tailOf line).length ≤ most) → numbersOf line wd most = none := fun h => by
      unfold numbersOf
      rw [if_neg h]
    refine ⟨_, rfl, wl, _, 0, _, rfl, rfl, SqL.of hw1, atI_nat (j := 0) rfl, _, rfl, rfl, _, rfl, ite2 (fun c => ?_) (fun c => ?_)⟩
    · refine itT rfl (kn (bad fun h => ?_) _ x1)
      have z : (!decide (V.str (wordOf line) = V.str wd)) = true := c
      rw [h.1, decide_eq_true rfl] at z
      cases z
    have ew : wordOf line = wd := by
      have z : ¬ (!decide (V.str (wordOf line) = V.str wd)) = true := c
      rw [Bool.not_eq_true', decide_eq_false_iff_not, Classical.not_not] at z
      exact V.str.inj z
    refine ⟨_, rfl, wl, _, rfl, .inl (SqL.of hw1), _, _, rfl, rfl, _, rfl, ?_⟩
    rw [lw]
    refine ite2 (fun c1 => ?_) (fun c1 => ?_)
    rotate_left
    · refine ⟨_, rfl, itT rfl (kn (bad fun h => c1 (decide_eq_true ?_)) _ x1)⟩
      omega
    have c1 := of_decide_eq_true c1
    refine ⟨_, rfl, _, _, rfl, rfl, _, _, rfl, rfl, _, rfl, ite2 (fun c2 => ?_) (fun c2 => ?_)⟩
    · refine kn (bad fun h => ?_) _ x1
      have z : (!decide (((tailOf line).length : Int) + 1 ≤ (most : Int) + 1)) = true := c2
      rw [decide_eq_true (by omega)] at z
      cases z
    have c2 : ((tailOf line).length : Int) ≤ (most : Int) := by
      have z : ¬ (!decide (((tailOf line).length : Int) + 1 ≤ (most : Int) + 1)) = true := c2
      rw [Bool.not_eq_true', decide_eq_false_iff_not, Classical.not_not] at z
      omega
    have enum : numbersOf line wd most = allSome (numsOf line) := by
      unfold numbersOf
      rw [if_pos ⟨ew, by omega, by omega⟩]
    refine ⟨by show 0 ≤ sizeLine; omega, fun fl nfl => ?_⟩
    have x2 : Ext H (upd H1 fl (.lst [])) := Ext.new x1 nfl
    have hw2 : (upd H1 fl (.lst [])) wl = some (.lst (.str (wordOf line) :: (tailOf line).map .str)) := (upd_ne (ne_of_none hw1 nfl)).trans hw1
    have hf2 : (upd H1 fl (.lst [])) fl = some (.lst []) := upd_same
    have nfl0 : H fl = none := Ext.free x1 nfl
    generalize upd H1 fl (.lst []) = H2 at x2 hw2 hf2 ⊢
    -- the loop
    refine ⟨fun σ' H' => ∃ (ns : List Int) (w1 w2 : Option V), σ' = [some (.str line), some (.str wd), some (.int most), some (.ref wl), some (.ref fl), w1, w2] ∧ Ext H H' ∧ H' fl = some (.lst (ns.map V.int)) ∧ numsOf line = ns.map some, ?_, ?_⟩
    rotate_left
    · rintro σ' H' ⟨ns, w1, w2, rfl, x3, hf3, e3⟩
      exact ⟨_, rfl, ks ns (by rw [enum, e3, allSome_some]) _ _ x3 hf3 nfl0⟩
    refine ⟨_, rfl, _, rfl, wl, _, rfl, SqL.of hw2, fun tp ntp => ?_⟩
    rw [cut1]
    have x3 : Ext H2 (upd H2 tp (.lst ((tailOf line).map .str))) := Ext.new Ext.rfl' ntp
    have ht3 : (upd H2 tp (.lst ((tailOf line).map .str))) tp = some (.lst ((tailOf line).map .str)) := upd_same
    have hf3 := x3 _ _ hf2
    have ntf : tp ≠ fl := fun z => by
      rw [z, hf2] at ntp
      cases ntp
    have x3' := Ext.trans x2 x3
    generalize upd H2 tp (.lst ((tailOf line).map .str)) = H3 at ht3 hf3 x3' ⊢
    have ntp0 : H tp = none := Ext.free x2 ntp
    clear x3
    refine ⟨tp, rfl, ⟨_, SqL.of ht3⟩, for_list (K := K) (a := tp) (xs := (tailOf line).map V.str) (fun i σ' H' => ∃ (ns : List Int) (w1 w2 : Option V), σ' = [some (.str line), some (.str wd), some (.int most), some (.ref wl), some (.ref fl), w1, w2] ∧ Ext H H' ∧ H' tp = some (.lst ((tailOf line).map .str)) ∧ H' fl = some (.lst (ns.map V.int)) ∧ ((tailOf line).take i).map parseNum = ns.map some)
      ⟨[], none, none, rfl, x3', ht3, hf3, rfl⟩ (fun i σ' H' _ ⟨ns, w1, w2, _, _, h, _⟩ => SqL.of h) ?_ ?_⟩
    rotate_left
    · rintro σ' H' ⟨ns, w1, w2, rfl, x4, ht4, hf4, e4⟩
      refine ⟨ns, w1, w2, rfl, x4, hf4, ?_⟩
      rw [List.length_map, List.take_length] at e4
      exact e4
    rintro i y σ' H4 hi ⟨ns, w1, w2, rfl, x4, ht4, hf4, e4⟩
    rw [List.getElem?_map] at hi
    obtain ⟨one, eo, rfl⟩ := Option.map_eq_some_iff.mp hi
    have hone : one.length ≤ line.length := part_len (by rw [split_cons]; exact List.mem_cons_of_mem _ (List.mem_of_getElem? eo))
    have hnum : parseNum one = none → numbersOf line wd most = none := fun h => by
      rw [enum]
      refine allSome_none ?_
      rw [← h]
      exact List.mem_map.mpr ⟨one, List.mem_of_getElem? eo, rfl⟩
    have htake : ((tailOf line).take (i + 1)).map parseNum = ((tailOf line).take i).map parseNum ++ [parseNum one] := by
      rw [List.take_succ, eo, List.map_append]
      rfl
    have lns : ns.length ≤ (tailOf line).length := by
      have y := congrArg List.length e4
      rw [List.length_map, List.length_map] at y
      have z := List.length_take_le i (tailOf line)
      have z2 := List.length_take_le' i (tailOf line)
      omega
    refine ⟨_, rfl, rfl, _, rfl, ite2 (fun q => ?_) (fun q => ?_)⟩
    · have e : one = "" := V.str.inj (of_decide_eq_true q)
      exact itT rfl (kn (hnum (by unfold parseNum; rw [if_pos (Or.inl e)])) _ x4)
    have ne : ¬ one = "" := fun e => q (decide_eq_true (congrArg V.str e))
    refine ⟨_, rfl, one, rfl, by omega, _, _, rfl, rfl, _, rfl, ite2 (fun q2 => ?_) (fun q2 => ?_)⟩
    · have e : 9 < one.length := by
        have := of_decide_eq_true q2
        omega
      exact itT rfl (kn (hnum (by unfold parseNum; rw [if_pos (Or.inr (Or.inl e))])) _ x4)
    have nl9 : ¬ 9 < one.length := fun e => q2 (decide_eq_true (by show (9 : Int) < (one.length : Int); omega))
    refine ⟨_, rfl, one, rfl, fun D hD => ?_⟩
    refine lc_it (walk_str (z := one)) (fun j H' => Ext H4 H' ∧ ∃ acc, H' D = some (.lst acc) ∧ acc.length ≤ j ∧ acc.isEmpty = (one.cps.toList.take j).all digC) ⟨Ext.new Ext.rfl' hD, [], upd_same, Nat.le_refl _, rfl⟩ (fun _ _ _ _ => trivial) ?_ ?_
    · rintro j x H5 H6 hj ⟨x5, acc, hD5, hl5, he5⟩ ⟨rfl, c, ec, rfl⟩
      have ec2 : one.cps.toList[j]? = some c := by
        rw [Array.getElem?_toList]
        exact ec
      have et : (one.cps.toList.take (j + 1)).all digC = ((one.cps.toList.take j).all digC && digC c) := by
        rw [List.take_succ, ec2, List.all_append]
        show (_ && (digC c && true)) = _
        rw [Bool.and_true]
      have hj2 : j < one.length := hj
      refine ⟨rfl, _, rfl, c, _, rfl, rfl, _, rfl, ite2 (fun q3 => ?_) (fun q3 => ?_)⟩
      · have dc : digC c = false := by
          have z : (!decide (c ∈ ("0123456789" : Str).cps.toList)) = true := q3
          rw [Bool.not_eq_true'] at z
          exact z
        refine ⟨_, rfl, acc, hD5, by omega, fun b o e => ?_, acc ++ [.str ⟨#[c]⟩], upd_same, by rw [List.length_append]; show _ + 1 ≤ _; omega, ?_⟩
        · rw [upd_ne (ne_of_none e hD)]
          exact x5 b o e
        · rw [et, dc, Bool.and_false]
          cases acc <;> rfl
      · have dc : digC c = true := by
          have z : ¬ (!decide (c ∈ ("0123456789" : Str).cps.toList)) = true := q3
          rw [Bool.not_eq_true', Bool.not_eq_false] at z
          exact z
        exact ⟨x5, acc, hD5, by omega, by rw [et, dc, Bool.and_true]; exact he5⟩
    rintro H5 ⟨x5, acc, hD5, hl5, he5⟩
    have hcps : one.cps.size = one.cps.toList.length := by rw [Array.length_toList]
    rw [hcps, List.take_length] at he5
    refine ⟨by show 0 ≤ sizeLine; omega, fun em nem => ?_⟩
    have x6 : Ext H4 (upd H5 em (.lst [])) := Ext.new x5 nem
    refine ⟨D, em, acc, rfl, rfl, (upd_ne (ne_of_none hD5 nem)).trans hD5, upd_same, _, rfl, ?_⟩
    generalize upd H5 em (.lst []) = H6 at x6 ⊢
    have x46 := Ext.trans x4 x6
    refine ite2 (fun q3 => ?_) (fun q3 => ?_)
    · have e : one.cps.toList.all digC = false := by
        have z : (!acc.isEmpty) = true := q3
        rw [he5, Bool.not_eq_true'] at z
        exact z
      exact kn (hnum (by unfold parseNum; rw [if_pos (Or.inr (Or.inr e))])) _ x46
    have e : one.cps.toList.all digC = true := by
      have z : ¬ (!acc.isEmpty) = true := q3
      rw [he5, Bool.not_eq_true', Bool.not_eq_false] at z
      exact z
    obtain ⟨n, hn⟩ := num_text ne nl9 e
    have z : parseNum one = if one = "0" ∨ ¬ one.cps.toList.head? = some 48 then intText? one else none := by
      unfold parseNum
      rw [if_neg]
      rintro (h | h | h)
      · exact ne h
      · exact nl9 h
      · rw [e] at h
        cases h
    have last : parseNum one = some n → tDrop (tBM K "list" rAppend (tVar 4) (tCons (tCB (fun xs H Q => ∃ a n, xs = [V.str a] ∧ intText? a = some n ∧ a.length ≤ 640 ∧ Q (.int n) H) (tCons (tVar 5) tNil)) tNil))
        { nx := fun σ' H' => ∃ (ns : List Int) (w1 w2 : Option V), σ' = [some (.str line), some (.str wd), some (.int most), some (.ref wl), some (.ref fl), w1, w2] ∧ Ext H H' ∧ H' tp = some (.lst ((tailOf line).map .str)) ∧ H' fl = some (.lst (ns.map V.int)) ∧ ((tailOf line).take (i + 1)).map parseNum = ns.map some,
          rt := Q } [some (.str line), some (.str wd), some (.int most), some (.ref wl), some (.ref fl), some (.str one), w2] H6 := fun hp => by
      have hf6 := x6 _ _ hf4
      refine ⟨_, rfl, .inl ⟨rfl, _, SqL.of hf6⟩, _, rfl, one, n, rfl, hn, by omega, fl, _, _, rfl, rfl, hf6, by rw [List.length_map]; omega, ?_⟩
      refine ⟨ns ++ [n], _, _, rfl, Ext.putN x46 nfl0, (upd_ne ntf).trans (x6 _ _ ht4), upd_same.trans ?_, ?_⟩
      · rw [List.map_append]
        rfl
      · rw [htake, e4, hp, List.map_append]
        rfl
    refine ⟨_, rfl, rfl, _, rfl, ite2 (fun q4 => ?_) (fun q4 => itF (fun z => by cases z) (last ?_))⟩
    rotate_left
    · have e0 : one = "0" := by
        have w : ¬ (!decide (V.str one = V.str "0")) = true := q4
        rw [Bool.not_eq_true', decide_eq_false_iff_not, Classical.not_not] at w
        exact V.str.inj w
      rw [z, if_pos (Or.inl e0), hn]
    have n0 : ¬ one = "0" := fun e => by
      have w : (!decide (V.str one = V.str "0")) = true := q4
      rw [e, decide_eq_true rfl] at w
      cases w
    obtain ⟨c, r, ec⟩ : ∃ c r, one.cps.toList = c :: r := by
      cases ec : one.cps.toList with
      | nil => exact absurd (SX.S_tl one ▸ congrArg SX.S ec) ne
      | cons c r => exact ⟨c, r, rfl⟩
    refine ⟨_, rfl, one, 0, c, rfl, rfl, by omega, by rw [ec]; exact atI_nat (j := 0) rfl, rfl, _, rfl, ite2 (fun q5 => ?_) (fun q5 => last ?_)⟩
    · have ec2 : c = 48 := by
        have z2 : (⟨#[c]⟩ : Str) = "0" := V.str.inj (of_decide_eq_true q5)
        have z3 : (⟨#[c]⟩ : Str).cps.toList = [48] := by
          rw [z2]
          decide +kernel
        exact (List.cons.inj z3).1
      refine kn (hnum ?_) _ x46
      rw [z, if_neg]
      rintro (h | h)
      · exact n0 h
      · exact h (by rw [ec, ec2] <;> rfl)
    · have nc : ¬ c = 48 := fun w => by
        refine q5 (decide_eq_true ?_)
        rw [w]
        decide +kernel
      rw [z, if_pos (Or.inr (by rw [ec]; exact fun w => nc (Option.some.inj w))), hn]
end
end Hf
end
section
set_option maxHeartbeats 4000000
/-! D10: the law's own reading of an operation. -/
namespace Hf
open PySem PySem.Spec PyProof.Rows L2
/-! ### plain -/
def opB5 (wd : Str) : Option (List (Int × Int)) := if wd = "drain" then none else opBounds wd
theorem op_none {line : Str} (h : opBounds (wordOf line) = none) : opOf line = none := by
  cases e : opOf line with
  | none => rfl
  | some o => exact absurd h (op_word e)
theorem op_len {line : Str} {bs : List (Int × Int)} (e : opBounds (wordOf line) = some bs) (h : ¬ (numsOf line).length = bs.length) : opOf line = none := by
  refine opOf_none ?_
  unfold isOpB
  rw [e]
  show (decide _ && _) = false
  rw [decide_eq_false h, Bool.false_and]
theorem op_bad {line : Str} (h : none ∈ numsOf line) : opOf line = none := by
  cases q : isOpB (wordOf line) (numsOf line) with
  | false => exact opOf_none q
  | true => exact absurd h (isOp_no q)
theorem op_of {line : Str} {bs : List (Int × Int)} {ns : List Int} (e : opBounds (wordOf line) = some bs) (en : numsOf line = ns.map some) (hl : ns.length = bs.length) (h : ((ns.zip bs).all fun p => inB (some p.1) p.2.1 p.2.2) = true) : opOf line = some (wordOf line, ns) := by
  have q : isOpB (wordOf line) (numsOf line) = true := by
    unfold isOpB
    rw [e, en]
    show (decide _ && _) = true
    rw [decide_eq_true (by rw [List.length_map]; exact hl), Bool.true_and, List.zip_map_left, List.all_map]
    exact h
  unfold opOf
  rw [if_pos q, en, allSome_some]
  rfl
theorem op_out {line : Str} {bs : List (Int × Int)} {ns : List Int} (e : opBounds (wordOf line) = some bs) (en : numsOf line = ns.map some) (h : ((ns.zip bs).all fun p => inB (some p.1) p.2.1 p.2.2) = false) : opOf line = none := by
  refine opOf_none ?_
  unfold isOpB
  rw [e, en]
  show (decide _ && _) = false
  rw [List.zip_map_left, List.all_map]
  rw [show (((ns.zip bs).all ((fun p => inB p.1 p.2.1 p.2.2) ∘ Prod.map some id)) = false) from h, Bool.and_false]
theorem bounds_len {wd : Str} {bs : List (Int × Int)} (e : opBounds wd = some bs) (nd : ¬ wd = "drain") : 1 ≤ bs.length ∧ bs.length ≤ 2 := by
  unfold opBounds at e
  repeat' split at e
  all_goals first
    | (cases e; decide)
    | exact absurd (by assumption) nd
    | cases e
theorem drain_item : opOf "drain" = some (("drain" : Str), ([] : List Int)) := by decide +kernel
theorem drain_tail {line : Str} (h : wordOf line = "drain") (n : ¬ line = "drain") : opOf line = none := by
  refine op_len (bs := []) (by rw [h] <;> rfl) ?_
  rw [nums_len]
  intro z
  have z2 : tailOf line = [] := List.length_eq_zero_iff.mp z
  obtain ⟨p, ps, e⟩ := pieces_cons 32 line.cps.toList
  have e1 := split_sp line
  rw [e, split_cons, z2] at e1
  have e2 : wordOf line = SX.S p := (List.cons.inj e1).1
  have e3 : ps = [] := by
    have y := (List.cons.inj e1).2
    exact List.map_eq_nil_iff.mp y.symm
  rcases pieces_first e with ⟨_, y⟩ | ⟨q, _, y⟩
  · refine n ?_
    rw [← h, e2, ← y, SX.S_tl]
  · exact pieces_ne 32 q (y.trans e3)
/-- the table of the law's own -/
def BD (H : Hp) (d : Addr) : Prop := ∃ kvs : List (Key × V), H d = some (.dK kvs) ∧ ∀ wd : Str, match opB5 wd with
  | none => valV kvs (.inr wd) = none
  | some bs => ∃ (l : Addr) (ps : List Addr), valV kvs (.inr wd) = some (.ref l) ∧ H l = some (.lst (ps.map V.ref)) ∧ ps.length = bs.length ∧ ∀ (i : Nat) (p : Addr) (b : Int × Int), ps[i]? = some p → bs[i]? = some b → H p = some (.tup [.int b.1, .int b.2])
theorem BD.ext {H H' : Hp} {d : Addr} (x : Ext H H') (h : BD H d) : BD H' d := by
  obtain ⟨kvs, e, k⟩ := h
  refine ⟨kvs, x _ _ e, fun wd => ?_⟩
  have z := k wd
  cases hb : opB5 wd with
  | none =>
    rw [hb] at z
    exact z
  | some bs =>
    rw [hb] at z
    obtain ⟨l, ps, e1, e2, e3, e4⟩ := z
    exact ⟨l, ps, e1, x _ _ e2, e3, fun i p b h1 h2 => x _ _ (e4 i p b h1 h2)⟩
def spLOp : Sp := fun vs H Q _ => ∃ line, vs = [.str line] ∧ line.length ≤ 90000 ∧
  (match opOf line with
    | none => ∀ H', Ext H H' → Q .non H'
    | some o => ∀ H' p, Ext H H' → H' p = some (.tup (.str o.1 :: o.2.map .int)) → Q (.ref p) H')
section
variable {P : Program} {w : World} {K : Fg} {mg : Str → Option Value} {base : Heap}
theorem scLOp : FnScope ["_law_line", "_law_words", "_law_word", "_law_numbers_here", "_law_number", "_law_limit"] ["_law_line"] (defScope sLOp) := ⟨rfl, rfl, rfl, by decide +kernel, rfl, by decide +kernel, by decide +kernel⟩
theorem c_lOp (T : Txt K mg w) : Cal0 P w K mg base 2 "_law_operation" spLOp := by
  refine cal_of (i := 38) T rfl (by decide +kernel) scLOp (fun _ _ _ _ _ _ us hl => match us, hl with | [_], _ => rfl) (fun vs H Q E h => ?_) (fun f cdv A outer s H vs Q E hr h => ?_)
  · obtain ⟨line, rfl, _⟩ := h
    rfl
  · obtain ⟨line, rfl, hl, k⟩ := h
    refine ⟨_, (pss_cons (ps_set (i := 1) scLOp.nd (by rfl) (by first | exact Or.inl rfl | exact Or.inr rfl) (pe_disp (pps_cons pe_str (pe_lst (pa_cons (pe_tup (pa_cons pe_int (pa_cons pe_int pa_nil))) (pa_cons (pe_tup (pa_cons pe_int (pa_cons pe_int pa_nil))) pa_nil))) (pps_cons pe_str (pe_lst (pa_cons (pe_tup (pa_cons pe_int (pa_cons pe_int pa_nil))) pa_nil)) (pps_cons pe_str (pe_lst (pa_cons (pe_tup (pa_cons pe_int (pa_cons pe_int pa_nil))) pa_nil)) (pps_cons pe_str (pe_lst (pa_cons (pe_tup (pa_cons pe_int (pa_cons pe_int pa_nil))) pa_nil)) pps_nil)))) (by rfl) (by rfl) (by simp) (by decide)))
      (C8.pss_cut (ps_dput (room_u hr) (pv 1) pe_str (pe_lst (pa_cons (pe_tup (pa_cons pe_int (pa_cons pe_int pa_nil))) (pa_cons (pe_tup (pa_cons pe_int (pa_cons pe_int pa_nil))) pa_nil))) (by rfl))
      (pss_cons (ps_if (pt_cmpR op_eq (pv 0) pe_str (nomark _)) (pss_one (ps_ret (pe_tup (pa_cons pe_str pa_nil)))) pss_nil)
      (pss_cons (ps_set (i := 2) scLOp.nd (by rfl) (by first | exact Or.inl rfl | exact Or.inr rfl) (pe_ix ix_list (pe_split (pv 0) pe_str) pe_int (fun _ _ => rfl)))
      (pss_cons (ps_set (i := 3) scLOp.nd (by rfl) (by first | exact Or.inl rfl | exact Or.inr rfl) (C8.pe_c (c_lNums T) hr (by decide) (by rfl) (pa_cons (pv 0) (pa_cons (pv 2) (pa_cons pe_int pa_nil)))))
      (pss_cons (ps_if (PW.pt (pw_or (pt_cmp (pc_dnotin (room_u hr) (pv 2) (pv 1))) (pw_or (pt_cmp (pc_isN (pv 3))) (pw_or1 (pt_cmpR op_ne (pe_callB call_len_seq (by rfl) (fr T "len") boot_len (pa_cons (pv 3) pa_nil)) (pe_callB call_len_seq (by rfl) (fr T "len") boot_len (pa_cons (pe_dget (room_u hr) (pv 1) (pv 2) (fun _ _ => rfl)) pa_nil)) (nomark _)))))) (pss_one (ps_ret pe_non)) pss_nil)
      (C8.pss_cut (ps_for PassesOwn.never (by rfl) (RZ.pi_zipA (by rfl) (fr T "zip") (pa_cons (pv 3) (pa_cons (pe_dget (room_u hr) (pv 1) (pv 2) (fun _ _ => rfl)) pa_nil))) (pg_tup (by rfl) (pgs_cons (pg_name (i := 4) scLOp.nd (by rfl) (Or.inl (by rfl))) (pgs_cons (pg_name (i := 5) scLOp.nd (by rfl) (Or.inl (by rfl))) pgs_nil))) (pss_one (ps_if (pt_not (pt_chain op_le op_le (pe_ix ix_tup (pv 5) pe_int (fun _ _ => rfl)) (pv 4) (pe_ix ix_tup (pv 5) pe_int (fun _ _ => rfl)))) (pss_one (ps_ret pe_non)) pss_nil)))
      (pss_one (ps_ret (pe_op op_catA (pe_tup (pa_cons (pv 2) pa_nil)) (pe_callTy call_tuple_of (by rfl) (fr T "tuple") boot_tuple (pa_cons (pv 3) pa_nil)))))))))))), ?_⟩
    have en := sizeLine_eq
    refine fun d nd => ?_
    have y0 : Ext H (upd H d (.dK [])) := Ext.new Ext.rfl' nd
    have td : (upd H d (.dK [])) d = some (.dK []) := upd_same
    generalize upd H d (.dK []) = G0 at y0 td ⊢
    refine ⟨by show 2 ≤ sizeLine; omega, fun alloc0 nalloc0 => ?_⟩
    have y1 : Ext G0 (upd G0 alloc0 (.tup [V.int 0, V.int 2])) := Ext.new Ext.rfl' nalloc0
    have talloc0 : (upd G0 alloc0 (.tup [V.int 0, V.int 2])) alloc0 = some (.tup [V.int 0, V.int 2]) := upd_same
    generalize upd G0 alloc0 (.tup [V.int 0, V.int 2]) = G1 at y1 talloc0 ⊢
    refine ⟨by show 2 ≤ sizeLine; omega, fun alloc1 nalloc1 => ?_⟩
    have y2 : Ext G1 (upd G1 alloc1 (.tup [V.int 0, V.int 7])) := Ext.new Ext.rfl' nalloc1
    have talloc1 : (upd G1 alloc1 (.tup [V.int 0, V.int 7])) alloc1 = some (.tup [V.int 0, V.int 7]) := upd_same
    generalize upd G1 alloc1 (.tup [V.int 0, V.int 7]) = G2 at y2 talloc1 ⊢
    refine ⟨by show 2 ≤ sizeLine; omega, fun lalloc nlalloc => ?_⟩
    have y3 : Ext G2 (upd G2 lalloc (.lst [V.ref alloc0, V.ref alloc1])) := Ext.new Ext.rfl' nlalloc
    have tlalloc : (upd G2 lalloc (.lst [V.ref alloc0, V.ref alloc1])) lalloc = some (.lst [V.ref alloc0, V.ref alloc1]) := upd_same
    generalize upd G2 lalloc (.lst [V.ref alloc0, V.ref alloc1]) = G3 at y3 tlalloc ⊢
    refine ⟨by show 2 ≤ sizeLine; omega, fun free0 nfree0 => ?_⟩
    have y4 : Ext G3 (upd G3 free0 (.tup [V.int 0, V.int 7])) := Ext.new Ext.rfl' nfree0
    have tfree0 : (upd G3 free0 (.tup [V.int 0, V.int 7])) free0 = some (.tup [V.int 0, V.int 7]) := upd_same
    generalize upd G3 free0 (.tup [V.int 0, V.int 7]) = G4 at y4 tfree0 ⊢
    refine ⟨by show 1 ≤ sizeLine; omega, fun lfree nlfree => ?_⟩
    have y5 : Ext G4 (upd G4 lfree (.lst [V.ref free0])) := Ext.new Ext.rfl' nlfree
    have tlfree : (upd G4 lfree (.lst [V.ref free0])) lfree = some (.lst [V.ref free0]) := upd_same
    generalize upd G4 lfree (.lst [V.ref free0]) = G5 at y5 tlfree ⊢
    refine ⟨by show 2 ≤ sizeLine; omega, fun adopt0 nadopt0 => ?_⟩
    have y6 : Ext G5 (upd G5 adopt0 (.tup [V.int 0, V.int 7])) := Ext.new Ext.rfl' nadopt0
    have tadopt0 : (upd G5 adopt0 (.tup [V.int 0, V.int 7])) adopt0 = some (.tup [V.int 0, V.int 7]) := upd_same
    generalize upd G5 adopt0 (.tup [V.int 0, V.int 7]) = G6 at y6 tadopt0 ⊢
    refine ⟨by show 1 ≤ sizeLine; omega, fun ladopt nladopt => ?_⟩
    have y7 : Ext G6 (upd G6 ladopt (.lst [V.ref adopt0])) := Ext.new Ext.rfl' nladopt
    have tladopt : (upd G6 ladopt (.lst [V.ref adopt0])) ladopt = some (.lst [V.ref adopt0]) := upd_same
    generalize upd G6 ladopt (.lst [V.ref adopt0]) = G7 at y7 tladopt ⊢
    refine ⟨by show 2 ≤ sizeLine; omega, fun grow0 ngrow0 => ?_⟩
    have y8 : Ext G7 (upd G7 grow0 (.tup [V.int 0, V.int 7])) := Ext.new Ext.rfl' ngrow0
    have tgrow0 : (upd G7 grow0 (.tup [V.int 0, V.int 7])) grow0 = some (.tup [V.int 0, V.int 7]) := upd_same
    generalize upd G7 grow0 (.tup [V.int 0, V.int 7]) = G8 at y8 tgrow0 ⊢
    refine ⟨by show 1 ≤ sizeLine; omega, fun lgrow nlgrow => ?_⟩
    have y9 : Ext G8 (upd G8 lgrow (.lst [V.ref grow0])) := Ext.new Ext.rfl' nlgrow
    have tlgrow : (upd G8 lgrow (.lst [V.ref grow0])) lgrow = some (.lst [V.ref grow0]) := upd_same
    generalize upd G8 lgrow (.lst [V.ref grow0]) = G9 at y9 tlgrow ⊢
    have z9 : Ext G9 G9 := Ext.rfl'
    have z8 : Ext G8 G9 := Ext.trans y9 z9
    have z7 : Ext G7 G9 := Ext.trans y8 z8
    have z6 : Ext G6 G9 := Ext.trans y7 z7
    have z5 : Ext G5 G9 := Ext.trans y6 z6
    have z4 : Ext G4 G9 := Ext.trans y5 z5
    have z3 : Ext G3 G9 := Ext.trans y4 z4
    have z2 : Ext G2 G9 := Ext.trans y3 z3
    have z1 : Ext G1 G9 := Ext.trans y2 z2
    have z0 : Ext G0 G9 := Ext.trans y1 z1
    refine ⟨z0 _ _ td, [((Sum.inr "alloc" : Key), V.ref lalloc), ((Sum.inr "free" : Key), V.ref lfree), ((Sum.inr "adopt" : Key), V.ref ladopt), ((Sum.inr "grow" : Key), V.ref lgrow)], rfl, by show 4 ≤ 15; decide, ?_⟩
    have dG := z0 _ _ td
    have put1 : ∀ {b : Addr} {o : HO}, o ≠ .dK [] → G9 b = some o → (upd G9 d (.dK (mergeK [] [((Sum.inr "alloc" : Key), V.ref lalloc), ((Sum.inr "free" : Key), V.ref lfree), ((Sum.inr "adopt" : Key), V.ref ladopt), ((Sum.inr "grow" : Key), V.ref lgrow)]))) b = some o := fun {b o} h e => (upd_ne fun z => h (by rw [z, dG] at e; exact (Option.some.inj e).symm)).trans e
    have talloc0 := put1 (by intro z; cases z) (z1 _ _ talloc0)
    have talloc1 := put1 (by intro z; cases z) (z2 _ _ talloc1)
    have tlalloc := put1 (by intro z; cases z) (z3 _ _ tlalloc)
    have tfree0 := put1 (by intro z; cases z) (z4 _ _ tfree0)
    have tlfree := put1 (by intro z; cases z) (z5 _ _ tlfree)
    have tadopt0 := put1 (by intro z; cases z) (z6 _ _ tadopt0)
    have tladopt := put1 (by intro z; cases z) (z7 _ _ tladopt)
    have tgrow0 := put1 (by intro z; cases z) (z8 _ _ tgrow0)
    have tlgrow := put1 (by intro z; cases z) (z9 _ _ tlgrow)
    have xH : Ext H (upd G9 d (.dK (mergeK [] [((Sum.inr "alloc" : Key), V.ref lalloc), ((Sum.inr "free" : Key), V.ref lfree), ((Sum.inr "adopt" : Key), V.ref ladopt), ((Sum.inr "grow" : Key), V.ref lgrow)]))) := fun b o e => (upd_ne (ne_of_none e nd)).trans (z0 _ _ (y0 _ _ e))
    have dP : (upd G9 d (.dK (mergeK [] [((Sum.inr "alloc" : Key), V.ref lalloc), ((Sum.inr "free" : Key), V.ref lfree), ((Sum.inr "adopt" : Key), V.ref ladopt), ((Sum.inr "grow" : Key), V.ref lgrow)]))) d = some (.dK (mergeK [] [((Sum.inr "alloc" : Key), V.ref lalloc), ((Sum.inr "free" : Key), V.ref lfree), ((Sum.inr "adopt" : Key), V.ref ladopt), ((Sum.inr "grow" : Key), V.ref lgrow)])) := upd_same
    clear put1 z0 z1 z2 z3 z4 z5 z6 z7 z8 z9 y1 y2 y3 y4 y5 y6 y7 y8 y9
    generalize upd G9 d (.dK (mergeK [] [((Sum.inr "alloc" : Key), V.ref lalloc), ((Sum.inr "free" : Key), V.ref lfree), ((Sum.inr "adopt" : Key), V.ref ladopt), ((Sum.inr "grow" : Key), V.ref lgrow)])) = P0 at dP xH talloc0 talloc1 tlalloc tfree0 tlfree tadopt0 tladopt tgrow0 tlgrow ⊢
    refine ⟨fun σ' H' => σ' = [some (.str line), some (.ref d), none, none, none, none] ∧ Ext H H' ∧ BD H' d, ?_, ?_⟩
    · refine ⟨by show 2 ≤ sizeLine; omega, fun large0 nlarge0 => ?_⟩
      have w1 : Ext P0 (upd P0 large0 (.tup [V.int 1, V.int 8])) := Ext.new Ext.rfl' nlarge0
      have tlarge0 : (upd P0 large0 (.tup [V.int 1, V.int 8])) large0 = some (.tup [V.int 1, V.int 8]) := upd_same
      generalize upd P0 large0 (.tup [V.int 1, V.int 8]) = P1 at w1 tlarge0 ⊢
      refine ⟨by show 2 ≤ sizeLine; omega, fun large1 nlarge1 => ?_⟩
      have w2 : Ext P1 (upd P1 large1 (.tup [V.int 0, V.int 7])) := Ext.new Ext.rfl' nlarge1
      have tlarge1 : (upd P1 large1 (.tup [V.int 0, V.int 7])) large1 = some (.tup [V.int 0, V.int 7]) := upd_same
      generalize upd P1 large1 (.tup [V.int 0, V.int 7]) = P2 at w2 tlarge1 ⊢
      refine ⟨by show 2 ≤ sizeLine; omega, fun llarge nllarge => ?_⟩
      have w3 : Ext P2 (upd P2 llarge (.lst [V.ref large0, V.ref large1])) := Ext.new Ext.rfl' nllarge
      have tllarge : (upd P2 llarge (.lst [V.ref large0, V.ref large1])) llarge = some (.lst [V.ref large0, V.ref large1]) := upd_same
      generalize upd P2 llarge (.lst [V.ref large0, V.ref large1]) = P3 at w3 tllarge ⊢
      have w13 := Ext.trans w2 w3
      have w03 := Ext.trans w1 w13
      have dP3 := w03 _ _ dP
      refine ⟨_, rfl, d, _, rfl, DPut.k (k := Sum.inr "large") dP3 ?_, rfl, ?_, (putK (mergeK [] [((Sum.inr "alloc" : Key), V.ref lalloc), ((Sum.inr "free" : Key), V.ref lfree), ((Sum.inr "adopt" : Key), V.ref ladopt), ((Sum.inr "grow" : Key), V.ref lgrow)]) (Sum.inr "large" : Key) (V.ref llarge)), upd_same, fun wd => ?_⟩
      · have z := length_mergeK [((Sum.inr "alloc" : Key), V.ref lalloc), ((Sum.inr "free" : Key), V.ref lfree), ((Sum.inr "adopt" : Key), V.ref ladopt), ((Sum.inr "grow" : Key), V.ref lgrow)] []
        have z2 : ([((Sum.inr "alloc" : Key), V.ref lalloc), ((Sum.inr "free" : Key), V.ref lfree), ((Sum.inr "adopt" : Key), V.ref ladopt), ((Sum.inr "grow" : Key), V.ref lgrow)] : List (Key × V)).length = 4 := rfl
        have z3 : ([] : List (Key × V)).length = 0 := rfl
        omega
      · exact fun b o e => (upd_ne (ne_of_none e nd)).trans (w03 _ _ (xH _ _ e))
      have put2 : ∀ {b : Addr} {o : HO}, (∀ kvs, o ≠ .dK kvs) → P3 b = some o → (upd P3 d (.dK (putK (mergeK [] [((Sum.inr "alloc" : Key), V.ref lalloc), ((Sum.inr "free" : Key), V.ref lfree), ((Sum.inr "adopt" : Key), V.ref ladopt), ((Sum.inr "grow" : Key), V.ref lgrow)]) (Sum.inr "large" : Key) (V.ref llarge)))) b = some o := fun {b o} h e => (upd_ne fun z => h _ (by rw [z, dP3] at e; exact (Option.some.inj e).symm)).trans e
      have hv : valV (putK (mergeK [] [((Sum.inr "alloc" : Key), V.ref lalloc), ((Sum.inr "free" : Key), V.ref lfree), ((Sum.inr "adopt" : Key), V.ref ladopt), ((Sum.inr "grow" : Key), V.ref lgrow)]) (Sum.inr "large" : Key) (V.ref llarge)) (Sum.inr wd : Key) = if wd = "large" then some (V.ref llarge) else if wd = "grow" then some (V.ref lgrow) else if wd = "adopt" then some (V.ref ladopt) else if wd = "free" then some (V.ref lfree) else if wd = "alloc" then some (V.ref lalloc) else none := by
        show valV (putK (putK (putK (putK (putK [] (Sum.inr "alloc" : Key) (V.ref lalloc)) (Sum.inr "free" : Key) (V.ref lfree)) (Sum.inr "adopt" : Key) (V.ref ladopt)) (Sum.inr "grow" : Key) (V.ref lgrow)) (Sum.inr "large" : Key) (V.ref llarge)) (Sum.inr wd : Key) = _
        simp only [valV_put, Sum.inr.injEq, valV_nil]
      generalize (putK (mergeK [] [((Sum.inr "alloc" : Key), V.ref lalloc), ((Sum.inr "free" : Key), V.ref lfree), ((Sum.inr "adopt" : Key), V.ref ladopt), ((Sum.inr "grow" : Key), V.ref lgrow)]) (Sum.inr "large" : Key) (V.ref llarge)) = kvs5 at hv put2 ⊢
      by_cases h_large : wd = "large"
      · have e1 : opB5 wd = some [(1, 8), (0, 7)] := by
          rw [h_large]
          decide +kernel
        rw [e1]
        have e2 : valV kvs5 (Sum.inr wd : Key) = some (V.ref llarge) := by
          rw [hv, h_large, if_pos rfl]
        refine ⟨llarge, [large0, large1], e2, put2 (fun _ z => by cases z) tllarge, rfl, fun i p b h1 h2 => ?_⟩
        match i, h1, h2 with
        | 0, h1, h2 => cases h1; cases h2; exact put2 (fun _ z => by cases z) (w13 _ _ tlarge0)
        | 1, h1, h2 => cases h1; cases h2; exact put2 (fun _ z => by cases z) (w3 _ _ tlarge1)
        | n + 2, h1, h2 => cases h1
      by_cases h_grow : wd = "grow"
      · have e1 : opB5 wd = some [(0, 7)] := by
          rw [h_grow]
          decide +kernel
        rw [e1]
        have e2 : valV kvs5 (Sum.inr wd : Key) = some (V.ref lgrow) := by
          rw [hv, h_grow, if_neg (by decide +kernel), if_pos rfl]
        refine ⟨lgrow, [grow0], e2, put2 (fun _ z => by cases z) (w03 _ _ tlgrow), rfl, fun i p b h1 h2 => ?_⟩
        match i, h1, h2 with
        | 0, h1, h2 => cases h1; cases h2; exact put2 (fun _ z => by cases z) (w03 _ _ tgrow0)
        | n + 1, h1, h2 => cases h1
      by_cases h_adopt : wd = "adopt"
      · have e1 : opB5 wd = some [(0, 7)] := by
          rw [h_adopt]
          decide +kernel
        rw [e1]
        have e2 : valV kvs5 (Sum.inr wd : Key) = some (V.ref ladopt) := by
          rw [hv, h_adopt, if_neg (by decide +kernel), if_neg (by decide +kernel), if_pos rfl]
        refine ⟨ladopt, [adopt0], e2, put2 (fun _ z => by cases z) (w03 _ _ tladopt), rfl, fun i p b h1 h2 => ?_⟩
        match i, h1, h2 with
        | 0, h1, h2 => cases h1; cases h2; exact put2 (fun _ z => by cases z) (w03 _ _ tadopt0)
        | n + 1, h1, h2 => cases h1
      by_cases h_free : wd = "free"
      · have e1 : opB5 wd = some [(0, 7)] := by
          rw [h_free]
          decide +kernel
        rw [e1]
        have e2 : valV kvs5 (Sum.inr wd : Key) = some (V.ref lfree) := by
          rw [hv, h_free, if_neg (by decide +kernel), if_neg (by decide +kernel), if_neg (by decide +kernel), if_pos rfl]
        refine ⟨lfree, [free0], e2, put2 (fun _ z => by cases z) (w03 _ _ tlfree), rfl, fun i p b h1 h2 => ?_⟩
        match i, h1, h2 with
        | 0, h1, h2 => cases h1; cases h2; exact put2 (fun _ z => by cases z) (w03 _ _ tfree0)
        | n + 1, h1, h2 => cases h1
      by_cases h_alloc : wd = "alloc"
      · have e1 : opB5 wd = some [(0, 2), (0, 7)] := by
          rw [h_alloc]
          decide +kernel
        rw [e1]
        have e2 : valV kvs5 (Sum.inr wd : Key) = some (V.ref lalloc) := by
          rw [hv, h_alloc, if_neg (by decide +kernel), if_neg (by decide +kernel), if_neg (by decide +kernel), if_neg (by decide +kernel), if_pos rfl]
        refine ⟨lalloc, [alloc0, alloc1], e2, put2 (fun _ z => by cases z) (w03 _ _ tlalloc), rfl, fun i p b h1 h2 => ?_⟩
        match i, h1, h2 with
        | 0, h1, h2 => cases h1; cases h2; exact put2 (fun _ z => by cases z) (w03 _ _ talloc0)
        | 1, h1, h2 => cases h1; cases h2; exact put2 (fun _ z => by cases z) (w03 _ _ talloc1)
        | n + 2, h1, h2 => cases h1
      have e1 : opB5 wd = none := by
        unfold opB5
        by_cases hd : wd = "drain"
        · rw [if_pos hd]
        · rw [if_neg hd]
          unfold opBounds
          rw [if_neg h_alloc, if_neg h_free, if_neg h_adopt, if_neg h_large, if_neg h_grow, if_neg hd]
      rw [e1]
      show valV kvs5 (Sum.inr wd : Key) = none
      rw [hv, if_neg h_large, if_neg h_grow, if_neg h_adopt, if_neg h_free, if_neg h_alloc]
    rintro σ' H1 ⟨rfl, x1, hB⟩
    have kn : opOf line = none → ∀ H', Ext H H' → Q .non H' := fun e => by
      rw [e] at k
      exact k
    have ks : ∀ o, opOf line = some o → ∀ H' p, Ext H H' → H' p = some (.tup (.str o.1 :: o.2.map .int)) → Q (.ref p) H' := fun o e => by
      rw [e] at k
      exact k
    clear k
    refine ⟨_, rfl, rfl, _, rfl, ite2 (fun c => ?_) (fun c => ?_)⟩
    · have e : line = "drain" := V.str.inj (of_decide_eq_true c)
      exact ⟨by show 1 ≤ sizeLine; omega, fun p np => ks (("drain" : Str), ([] : List Int)) (by rw [e]; exact drain_item) _ p (Ext.new x1 np) upd_same⟩
    have nd0 : ¬ line = "drain" := fun e => c (decide_eq_true (congrArg V.str e))
    have tl := tail_len line
    have e0 : (Txt.split line sp).map V.str = .str (wordOf line) :: (tailOf line).map .str := by rw [split_cons] <;> rfl
    refine ⟨_, rfl, ⟨_, rfl⟩, line, sp, rfl, rfl, by decide +kernel, by omega, fun wl nwl => ?_⟩
    refine ⟨wl, _, 0, .str (wordOf line), rfl, rfl, SqL.of (upd_same.trans (by rw [e0])), atI_nat (j := 0) rfl, ?_⟩
    have x2 : Ext H (upd H1 wl (.lst ((Txt.split line sp).map V.str))) := Ext.new x1 nwl
    have hB2 : BD (upd H1 wl (.lst ((Txt.split line sp).map V.str))) d := hB.ext (Ext.new Ext.rfl' nwl)
    generalize upd H1 wl (.lst ((Txt.split line sp).map V.str)) = H2 at x2 hB2 ⊢
    have lnl := nums_len line
    have nnone : numbersOf line (wordOf line) 2 = none → ∀ bs, opBounds (wordOf line) = some bs → ¬ wordOf line = "drain" → opOf line = none := fun e bs eb nd => by
      obtain ⟨b1, b2⟩ := bounds_len eb nd
      unfold numbersOf at e
      split at e
      · refine op_bad ?_
        by_cases hm : none ∈ numsOf line
        · exact hm
        · obtain ⟨ns, en⟩ := allSome_of hm
          rw [en] at e
          cases e
      · rename_i h
        refine op_len eb fun z => h ⟨rfl, by omega, by omega⟩
    have nsome : ∀ ns, numbersOf line (wordOf line) 2 = some ns → numsOf line = ns.map some := fun ns e => by
      unfold numbersOf at e
      split at e
      · exact allSome_map e
      · cases e
    refine ⟨_, rfl, _, rfl, line, wordOf line, 2, rfl, hl, ?_⟩
    have hd5 : opB5 (wordOf line) = none → opOf line = none := fun e => by
      unfold opB5 at e
      split at e
      · rename_i h
        exact drain_tail h nd0
      · exact op_none e
    have hs5 : ∀ bs, opB5 (wordOf line) = some bs → opBounds (wordOf line) = some bs ∧ ¬ wordOf line = "drain" := fun bs e => by
      unfold opB5 at e
      split at e
      · cases e
      · rename_i h
        exact ⟨e, h⟩
    cases en2 : numbersOf line (wordOf line) 2 with
    | none =>
      intro H3 x3
      have x03 := Ext.trans x2 x3
      obtain ⟨kvs, hd, hk⟩ := hB2.ext x3
      have hk := hk (wordOf line)
      refine ⟨_, rfl, _, rfl, d, _, rfl, DGet.k (k := Sum.inr (wordOf line)) hd, _, rfl, ?_⟩
      cases hb : opB5 (wordOf line) with
      | none =>
        rw [hb] at hk
        have hk : valV kvs (Sum.inr (wordOf line) : Key) = none := hk
        rw [hk]
        exact itT rfl (itT rfl (kn (hd5 hb) _ x03))
      | some bs =>
        obtain ⟨eb, nd⟩ := hs5 bs hb
        rw [hb] at hk
        obtain ⟨l, ps, e1, _⟩ := hk
        rw [e1]
        exact itF (fun z => by cases z) ⟨_, rfl, _, rfl, itT (by decide) (itT rfl (kn (nnone en2 bs eb nd) _ x03))⟩
    | some ns =>
      intro H3 q x3 hq _
      have x03 := Ext.trans x2 x3
      have hB3 := hB2.ext x3
      obtain ⟨kvs, hd, hk⟩ := hB3
      have hk := hk (wordOf line)
      have ens := nsome ns en2
      refine ⟨_, rfl, _, rfl, d, _, rfl, DGet.k (k := Sum.inr (wordOf line)) hd, _, rfl, ?_⟩
      cases hb : opB5 (wordOf line) with
      | none =>
        rw [hb] at hk
        have hk : valV kvs (Sum.inr (wordOf line) : Key) = none := hk
        rw [hk]
        exact itT rfl (itT rfl (kn (hd5 hb) _ x03))
      | some bs =>
        obtain ⟨eb, nd⟩ := hs5 bs hb
        rw [hb] at hk
        obtain ⟨l, ps, e1, hl3, hpl, hpb⟩ := hk
        have g1 : ∀ {H' : Hp}, Ext H3 H' → DGet H' d (.str (wordOf line)) (some (.ref l)) := fun {H'} x => by
          have z := DGet.k (k := Sum.inr (wordOf line)) (x _ _ hd)
          rw [e1] at z
          exact z
        have elen : (numsOf line).length = ns.length := by rw [ens, List.length_map]
        rw [e1]
        refine itF (fun z => by cases z) ⟨_, rfl, _, rfl, itF (by simp) ?_⟩
        refine ⟨_, rfl, q, _, rfl, .inl (SqL.of hq), _, rfl, _, rfl, d, _, rfl, g1 Ext.rfl', l, _, rfl, .inl (SqL.of hl3), rfl, _, rfl, ite2 (fun c1 => ?_) (fun c1 => ?_)⟩
        · refine kn (op_len eb fun z => ?_) _ x03
          have w : (!decide (V.int (((ns.map V.int).length : Nat) : Int) = V.int (((ps.map V.ref).length : Nat) : Int))) = true := c1
          rw [List.length_map, List.length_map, hpl, ← elen, z, decide_eq_true rfl] at w
          cases w
        have elb : ns.length = bs.length := by
          have w : ¬ (!decide (V.int (((ns.map V.int).length : Nat) : Int) = V.int (((ps.map V.ref).length : Nat) : Int))) = true := c1
          rw [List.length_map, List.length_map, Bool.not_eq_true', decide_eq_false_iff_not, Classical.not_not] at w
          have := V.int.inj w
          omega
        refine ⟨fun σ' H' => (∃ w1 w2, σ' = [some (.str line), some (.ref d), some (.str (wordOf line)), some (.ref q), w1, w2]) ∧ Ext H3 H' ∧ ((ns.zip bs).all fun p => inB (some p.1) p.2.1 p.2.2) = true, ?_, ?_⟩
        · refine ⟨_, rfl, _, rfl, _, rfl, d, _, rfl, g1 Ext.rfl', q, l, ns.map V.int, ps.map V.ref, rfl, .inl ⟨SqL.of hq, SqL.of hl3, ?_⟩⟩
          refine for_it (walk_zip (K := K) (a := q) (b := l) (xs := ns.map V.int) (ys := ps.map V.ref) (n := ns.length) (by rw [List.length_map, List.length_map, hpl, elb, Nat.min_self])) (fun i σ' H' => (∃ w1 w2, σ' = [some (.str line), some (.ref d), some (.str (wordOf line)), some (.ref q), w1, w2]) ∧ Ext H3 H' ∧ ∀ j n b, j < i → ns[j]? = some n → bs[j]? = some b → inB (some n) b.1 b.2 = true)
            ⟨⟨_, _, rfl⟩, Ext.rfl', fun j n b hj => absurd hj (Nat.not_lt_zero _)⟩ (fun i σ' H' _ h => ⟨SqL.of (h.2.1 _ _ hq), SqL.of (h.2.1 _ _ hl3)⟩) ?_ ?_
          · rintro i x σ' H4 H5 hi ⟨⟨w1, w2, rfl⟩, x4, hj⟩ ⟨t, a, b, rfl, ht, rfl, ea, eb2⟩
            have ea : (ns.map V.int)[i]? = some a := ea
            have eb2 : (ps.map V.ref)[i]? = some b := eb2
            rw [List.getElem?_map] at ea eb2
            obtain ⟨n, en, rfl⟩ := Option.map_eq_some_iff.mp ea
            obtain ⟨p, ep, rfl⟩ := Option.map_eq_some_iff.mp eb2
            have hbi : i < bs.length := by omega
            have ebs : bs[i]? = some (bs[i]'hbi) := List.getElem?_eq_getElem hbi
            have x5 : Ext H4 (upd H4 t (.tup [V.int n, .ref p])) := Ext.new Ext.rfl' ht
            have hp5 := x5 _ _ (x4 _ _ (hpb i _ _ ep ebs))
            refine ⟨t, _, rfl, SqT.of upd_same, rfl, _, _, rfl, _, _, rfl, rfl, ?_⟩
            have next : inB (some n) (bs[i]'hbi).1 (bs[i]'hbi).2 = true → (∃ w1 w2, [some (V.str line), some (.ref d), some (.str (wordOf line)), some (.ref q), some (.int n), some (.ref p)] = [some (.str line), some (.ref d), some (.str (wordOf line)), some (.ref q), w1, w2]) ∧ Ext H3 (upd H4 t (.tup [V.int n, .ref p])) ∧ ∀ j n b, j < i + 1 → ns[j]? = some n → bs[j]? = some b → inB (some n) b.1 b.2 = true := fun h => by
              refine ⟨⟨_, _, rfl⟩, Ext.trans x4 x5, fun j n' b' hj2 e1 e2 => ?_⟩
              rcases Nat.lt_or_ge j i with z | z
              · exact hj j n' b' z e1 e2
              · have ej : j = i := by omega
                rw [ej, en] at e1
                rw [ej, ebs] at e2
                cases e1
                cases e2
                exact h
            have out : inB (some n) (bs[i]'hbi).1 (bs[i]'hbi).2 = false → Q .non (upd H4 t (.tup [V.int n, .ref p])) := fun h => by
              refine kn (op_out eb ens ?_) _ (Ext.trans x03 (Ext.trans x4 x5))
              rw [List.all_eq_false]
              refine ⟨(n, bs[i]'hbi), List.mem_of_getElem? (i := i) ?_, ?_⟩
              · rw [List.getElem?_zip_eq_some]
                exact ⟨en, ebs⟩
              · rw [h]
                exact Bool.false_ne_true
            refine ⟨_, rfl, p, _, 0, _, rfl, rfl, SqT.of hp5, atI_nat (j := 0) rfl, _, rfl, _, _, rfl, rfl, _, rfl, ite2 (fun c2 => ?_) (fun c2 => ?_)⟩
            · refine ⟨_, rfl, p, _, 1, _, rfl, rfl, SqT.of hp5, atI_nat (j := 1) rfl, _, _, rfl, rfl, _, rfl, ite2 (fun c3 => out ?_) (fun c3 => next ?_)⟩
              · show (decide _ && decide _) = false
                have z : (!decide (n ≤ (bs[i]'hbi).2)) = true := c3
                rw [Bool.not_eq_true'] at z
                rw [z, Bool.and_false]
              · show (decide _ && decide _) = true
                have z : ¬ (!decide (n ≤ (bs[i]'hbi).2)) = true := c3
                rw [Bool.not_eq_true', Bool.not_eq_false] at z
                rw [z, c2]
                rfl
            · refine ⟨_, rfl, itT rfl (out ?_)⟩
              show (decide _ && decide _) = false
              rw [Bool.eq_false_iff.mpr c2, Bool.false_and]
          · rintro σ' H' ⟨hs, x4, hj⟩
            refine ⟨hs, x4, List.all_eq_true.mpr fun pr hpr => ?_⟩
            obtain ⟨i, e⟩ := List.getElem?_of_mem hpr
            rw [List.getElem?_zip_eq_some] at e
            exact hj i _ _ (List.getElem?_eq_some_iff.mp e.1).1 e.1 e.2
        rintro σ' H4 ⟨⟨w1, w2, rfl⟩, x4, hall⟩
        have eop := op_of eb ens elb hall
        have hne : ns ≠ [] := fun z => by
          have := (bounds_len eb nd).1
          rw [z] at elb
          have z2 : bs.length = 0 := elb.symm
          omega
        refine ⟨_, rfl, by show 1 ≤ sizeLine; omega, fun a na => ?_⟩
        have x5 : Ext H4 (upd H4 a (.tup [.str (wordOf line)])) := Ext.new Ext.rfl' na
        have ha5 : (upd H4 a (.tup [.str (wordOf line)])) a = some (.tup [.str (wordOf line)]) := upd_same
        generalize upd H4 a (.tup [.str (wordOf line)]) = H5 at x5 ha5 ⊢
        have x35 := Ext.trans x4 x5
        refine ⟨_, rfl, q, _, rfl, .inl ⟨SqL.of (x35 _ _ hq), fun b nb => ?_⟩⟩
        have x6 : Ext H5 (upd H5 b (.tup (ns.map V.int))) := Ext.new Ext.rfl' nb
        have hb6 : (upd H5 b (.tup (ns.map V.int))) b = some (.tup (ns.map V.int)) := upd_same
        generalize upd H5 b (.tup (ns.map V.int)) = H6 at x6 hb6 ⊢
        have lns : ns.length ≤ 2 := by
          have := (bounds_len eb nd).2
          omega
        refine ⟨a, b, _, _, rfl, rfl, SqT.of (x6 _ _ ha5), SqT.of hb6, by rw [List.length_map]; show 1 + _ ≤ _; omega, (fun z => by cases z), (fun _ z => absurd (List.map_eq_nil_iff.mp z) hne), fun _ _ p np => ?_⟩
        exact ks _ eop _ p (Ext.trans x03 (Ext.trans x35 (Ext.new x6 np))) upd_same
end
end Hf
end
section
set_option maxHeartbeats 4000000
/-! D11: the law's own reading of the rows. -/
namespace Hf
open PySem PySem.Spec PyProof.Rows L2
/-! ### plain -/
def readP (rows : List Str) : Except Nat (List (List Int) × List Thr × Option Str) := match readHeads rows 0 heads with
  | .error e => .error e
  | .ok hs => match readFault rows 7 with
    | .error e => .error e
    | .ok (k, p) => match readThreads (rows.drop p) p [] with
      | .error e => .error e
      | .ok ths => .ok (hs, ths, k)
theorem readM_P (rows : List Str) : readM rows = match readP rows with
    | .error e => .error e
    | .ok (hs, ths, k) => .ok (settOf hs ths k) := by
  unfold readM readP
  cases readHeads rows 0 heads with
  | error e => rfl
  | ok hs =>
    show (match readFault rows 7 with | .error e => _ | .ok (k, p) => _) = _
    cases readFault rows 7 with
    | error e => rfl
    | ok y =>
      obtain ⟨k, p⟩ := y
      show (match readThreads (rows.drop p) p [] with | .error e => _ | .ok ths => _) = _
      cases h : readThreads (rows.drop p) p [] with
      | error e => simp only [h]
      | ok ths => simp only [h]
theorem fault_S : ("fault" : Str) = SX.S [102, 97, 117, 108, 116] := by decide +kernel
theorem faultsp_S : ("fault " : Str) = SX.S [102, 97, 117, 108, 116, 32] := by decide +kernel
theorem faults_nosp : ∀ x ∈ faults, (32 : Nat) ∉ x.cps.toList := by decide +kernel
/-- the text behind «fault » -/
abbrev kindOf (line : Str) : Str := SX.S (line.cps.toList.drop 6)
theorem fault_tail {line : Str} (hw : wordOf line = "fault") {x : Str} (ht : tailOf line = [x]) : kindOf line = x ∧ line = "fault " ++ x := by
  obtain ⟨p, ps, e⟩ := pieces_cons 32 line.cps.toList
  have e1 := split_sp line
  rw [e, split_cons, hw, ht] at e1
  have e2 : ("fault" : Str) = SX.S p := (List.cons.inj e1).1
  have e3 : [x] = ps.map SX.S := (List.cons.inj e1).2
  rw [fault_S] at e2
  have ep : [102, 97, 117, 108, 116] = p := SX.S_inj e2
  subst ep
  rcases pieces_first e with ⟨z, _⟩ | ⟨q, hq, hps⟩
  · rw [z] at e3
    cases e3
  · obtain ⟨p2, ps2, e4⟩ := pieces_cons 32 q
    rw [← hps, e4] at e3
    have e5 : x = SX.S p2 := (List.cons.inj e3).1
    have e6 : ps2 = [] := List.map_eq_nil_iff.mp (List.cons.inj e3).2.symm
    rcases pieces_first e4 with ⟨_, z⟩ | ⟨q2, _, z⟩
    · have ek : kindOf line = x := by
        unfold kindOf
        rw [hq, e5, z]
        rfl
      refine ⟨ek, ?_⟩
      rw [faultsp_S, e5, ← z, SX.S_cat, ← SX.S_tl line, hq]
      rfl
    · exact absurd (z.trans e6) (pieces_ne 32 q2)
theorem fault_back {line : Str} (hk : kindOf line ∈ faults) (hl : line = "fault " ++ kindOf line) : tailOf line = [kindOf line] := by
  have e : line.cps.toList = [102, 97, 117, 108, 116] ++ 32 :: (kindOf line).cps.toList := by
    have z := congrArg (fun s : Str => s.cps.toList) hl
    rw [faultsp_S] at z
    have y := TL.tl_append (SX.S [102, 97, 117, 108, 116, 32]) (kindOf line)
    exact z.trans y
  have e2 := pieces_app (c := 32) (p := [102, 97, 117, 108, 116]) (kindOf line).cps.toList (by decide)
  rw [← e, pieces_one (faults_nosp _ hk)] at e2
  have e1 := split_sp line
  rw [e2, split_cons] at e1
  have e3 := (List.cons.inj e1).2
  rw [e3]
  show [SX.S (kindOf line).cps.toList] = _
  rw [SX.S_tl]
/-! ### the threads that grow -/
/-- a thread whose list is neither at m nor at n -/
def ThD (m n : Addr) (H : Hp) (v : V) (t : Thr) : Prop := ∃ p l vs, v = .ref p ∧ H p = some (.tup [.int t.1, .ref l]) ∧ H l = some (.lst vs) ∧ l ≠ m ∧ l ≠ n ∧ TpL H vs (t.2.map opD)
theorem ThD.keep {m n n' : Addr} {H H' : Hp} {v : V} {t : Thr} (h : ThD m n H v t) (k1 : TK H H') (k2 : ∀ b xs, b ≠ m → b ≠ n → H b = some (.lst xs) → H' b = some (.lst xs) ∧ b ≠ n') : ThD m n' H' v t := by
  obtain ⟨p, l, vs, e, h1, h2, n1, n2, h3⟩ := h
  exact ⟨p, l, vs, e, k1 _ _ h1, (k2 _ _ n1 n2 h2).1, n1, (k2 _ _ n1 n2 h2).2, TpL.mono k1 _ _ h3⟩
/-- at tl: the threads acc; the last one's list stands apart -/
def Grow (B : Hp) (tl : Addr) (H : Hp) (acc : List Thr) : Prop := (acc = [] ∧ H tl = some (.lst [])) ∨
  ∃ init t vi p pl ops, acc = init ++ [t] ∧ H tl = some (.lst (vi ++ [.ref p])) ∧ H p = some (.tup [.int t.1, .ref pl]) ∧ H pl = some (.lst ops) ∧ pl ≠ tl ∧ TpL H ops (t.2.map opD) ∧ Paired (ThD tl pl H) vi init ∧ B pl = none
theorem Grow.list {B : Hp} {tl : Addr} {H : Hp} {acc : List Thr} (h : Grow B tl H acc) : ∃ vs, H tl = some (.lst vs) ∧ vs.length = acc.length ∧ (vs.isEmpty = true ↔ acc = []) := by
  rcases h with ⟨rfl, e⟩ | ⟨init, t, vi, p, pl, ops, rfl, e, _, _, _, _, hp, _⟩
  · exact ⟨[], e, rfl, by simp⟩
  · refine ⟨_, e, by rw [List.length_append, List.length_append, hp.length] <;> rfl, ?_⟩
    simp
theorem Grow.ext {B : Hp} {tl : Addr} {H H' : Hp} {acc : List Thr} (x : Ext H H') (h : Grow B tl H acc) : Grow B tl H' acc := by
  rcases h with ⟨rfl, e⟩ | ⟨init, t, vi, p, pl, ops, rfl, e, e1, e2, n, e3, hp, hb⟩
  · exact .inl ⟨rfl, x _ _ e⟩
  · exact .inr ⟨init, t, vi, p, pl, ops, rfl, x _ _ e, x _ _ e1, x _ _ e2, n, TpL.mono (TK.of x) _ _ e3, paired_imp (fun a b h => h.keep (TK.of x) fun b xs _ n2 e => ⟨x _ _ e, n2⟩) hp, hb⟩
theorem Grow.done {B : Hp} {tl : Addr} {H : Hp} {acc : List Thr} (h : Grow B tl H acc) : ∃ vs, H tl = some (.lst vs) ∧ Paired (ThR H) vs acc := by
  rcases h with ⟨rfl, e⟩ | ⟨init, t, vi, p, pl, ops, rfl, e, e1, e2, n, e3, hp, hb⟩
  · exact ⟨[], e, .nil⟩
  · refine ⟨_, e, paired_app (paired_imp (fun a b h => ?_) hp) (.cons ⟨p, pl, ops, rfl, e1, e2, e3⟩ .nil)⟩
    obtain ⟨p', l', vs', e', a1, a2, _, _, a3⟩ := h
    exact ⟨p', l', vs', e', a1, a2, a3⟩
/-- a new thread: its empty list at nl, its tuple at tp -/
theorem Grow.new {B : Hp} {tl npl tp : Addr} {H : Hp} {acc : List Thr} {s : Int} {vs : List V} (xB : Ext B H) (h : Grow B tl H acc) (e : H tl = some (.lst vs)) (n1 : H npl = none) (n2 : (upd H npl (.lst [])) tp = none) :
    Grow B tl (upd (upd (upd H npl (.lst [])) tp (.tup [.int s, .ref npl])) tl (.lst (vs ++ [.ref tp]))) (acc ++ [(s, [])]) := by
  have x1 : Ext H (upd H npl (.lst [])) := Ext.new Ext.rfl' n1
  have x2 : Ext (upd H npl (.lst [])) (upd (upd H npl (.lst [])) tp (.tup [.int s, .ref npl])) := Ext.new Ext.rfl' n2
  have ntl : npl ≠ tl := fun z => by
    rw [z, e] at n1
    cases n1
  have ntp : tp ≠ tl := fun z => by
    rw [z, (upd_ne ntl.symm).trans e] at n2
    cases n2
  have hn : (upd (upd (upd H npl (.lst [])) tp (.tup [.int s, .ref npl])) tl (.lst (vs ++ [.ref tp]))) npl = some (.lst []) := (upd_ne ntl).trans (x2 _ _ upd_same)
  have ht : (upd (upd (upd H npl (.lst [])) tp (.tup [.int s, .ref npl])) tl (.lst (vs ++ [.ref tp]))) tp = some (.tup [.int s, .ref npl]) := (upd_ne ntp).trans upd_same
  have x12 := Ext.trans x1 x2
  have e12 := x12 _ _ e
  have kk : TK H (upd (upd (upd H npl (.lst [])) tp (.tup [.int s, .ref npl])) tl (.lst (vs ++ [.ref tp]))) := TK.trans (TK.of x12) (TK.put fun xs z => by rw [e12] at z; cases z)
  refine .inr ⟨acc, (s, []), vs, tp, npl, [], rfl, upd_same, ht, hn, ntl, .nil, ?_, Ext.free xB n1⟩
  have keepL : ∀ b xs, b ≠ tl → H b = some (.lst xs) → (upd (upd (upd H npl (.lst [])) tp (.tup [.int s, .ref npl])) tl (.lst (vs ++ [.ref tp]))) b = some (.lst xs) ∧ b ≠ npl := fun b xs nb e => ⟨(upd_ne nb).trans (x12 _ _ e), ne_of_none e n1⟩
  rcases h with ⟨rfl, e0⟩ | ⟨init, t, vi, p, pl, ops, rfl, e0, e1, e2, n, e3, hp, hb⟩
  · rw [e] at e0
    have z : vs = [] := HO.lst.inj (Option.some.inj e0)
    rw [z]
    exact .nil
  · rw [e] at e0
    have z : vs = vi ++ [.ref p] := HO.lst.inj (Option.some.inj e0)
    rw [z] at kk keepL ⊢
    refine paired_app (paired_imp (fun a b h => h.keep kk fun b xs n1 _ e => keepL b xs n1 e) hp) (.cons ⟨p, pl, ops, rfl, kk _ _ e1, (keepL _ _ n e2).1, n, (keepL _ _ n e2).2, TpL.mono kk _ _ e3⟩ .nil)
/-- an operation behind the last -/
theorem Grow.op {B : Hp} {tl pl : Addr} {H : Hp} {init : List Thr} {t : Thr} {vi ops : List V} {p q : Addr} {o : Op} (e : H tl = some (.lst (vi ++ [.ref p]))) (e1 : H p = some (.tup [.int t.1, .ref pl])) (e2 : H pl = some (.lst ops)) (n : pl ≠ tl) (e3 : TpL H ops (t.2.map opD)) (hp : Paired (ThD tl pl H) vi init) (hb : B pl = none)
    (hq : H q = some (.tup (.str o.1 :: o.2.map .int))) : Grow B tl (upd H pl (.lst (ops ++ [.ref q]))) (addOp o (init ++ [t])) := by
  rw [addOp_snoc]
  have kk : TK H (upd H pl (.lst (ops ++ [.ref q]))) := TK.put fun xs z => by
    rw [e2] at z
    cases z
  refine .inr ⟨init, (t.1, t.2 ++ [o]), vi, p, pl, ops ++ [.ref q], rfl, (upd_ne n.symm).trans e, kk _ _ e1, upd_same, n, ?_, paired_imp (fun a b h => h.keep kk fun b xs _ n2 e => ⟨(upd_ne n2).trans e, n2⟩) hp, hb⟩
  rw [List.map_append]
  exact TpL.app (TpL.mono kk _ _ e3) (.cons (Tp.of_op (kk _ _ hq)) .nil)
/-! ### the parts as they stand -/
theorem cut_from (xs : List V) (p : Nat) : cutV xs (some (p : Int)) none = xs.drop p := by
  have e : HT.sIx xs.length 0 (some (p : Int)) = min p xs.length := by
    show (if ((p : Nat) : Int) < 0 then (((p : Nat) : Int) + (xs.length : Int)).toNat else min ((p : Nat) : Int).toNat xs.length) = _
    rw [if_neg (by omega)]
    rfl
  unfold cutV
  rw [e]
  show (xs.drop (min p xs.length)).take (xs.length - min p xs.length) = _
  rw [List.take_of_length_le (by rw [List.length_drop]; exact Nat.le_refl _)]
  rcases Nat.le_total p xs.length with h | h
  · rw [Nat.min_eq_left h]
  · rw [Nat.min_eq_right h, List.drop_eq_nil_of_le (Nat.le_refl _), List.drop_eq_nil_of_le h]
/-- the numbers of the heads, a list of lists -/
def NumsAt (m : Addr) (H : Hp) (vs : List V) (hs : List (List Int)) : Prop := Paired (fun v (ns : List Int) => ∃ q, v = .ref q ∧ H q = some (.lst (ns.map V.int)) ∧ q ≠ m ∧ ns ≠ [] ∧ ns.length ≤ 3) vs hs
theorem NumsAt.keep {m : Addr} {H H' : Hp} {vs : List V} {hs : List (List Int)} (h : NumsAt m H vs hs) (k : ∀ b xs, b ≠ m → H b = some (.lst xs) → H' b = some (.lst xs)) : NumsAt m H' vs hs := paired_imp (fun a b ⟨q, e, e1, n, e2⟩ => ⟨q, e, k _ _ n e1, n, e2⟩) h
def PartsAt (H : Hp) (v : V) (hs : List (List Int)) (ths : List Thr) (k : Option Str) : Prop := ∃ p fl tl vs tvs, v = .ref p ∧ H p = some (.tup [.ref fl, .ref tl, optV k]) ∧ H fl = some (.lst vs) ∧
  Paired (fun v (ns : List Int) => ∃ q, v = .ref q ∧ H q = some (.lst (ns.map V.int)) ∧ ns ≠ [] ∧ ns.length ≤ 3) vs hs ∧ vs.length = 7 ∧ H tl = some (.lst tvs) ∧ Paired (ThR H) tvs ths
def spLRead : Sp := fun vs H Q _ => ∃ rl rows, vs = [.ref rl] ∧ H rl = some (.lst (List.map V.str rows)) ∧ RowsZ rows ∧
  (match readP rows with
    | .error n => ∀ H', Ext H H' → Q (.int (n : Nat)) H'
    | .ok (hs, ths, k) => ∀ H' v, Ext H H' → PartsAt H' v hs ths k → Q v H')
section
variable {P : Program} {w : World} {K : Fg} {mg : Str → Option Value} {base : Heap}
theorem scLRead : FnScope ["_law_rows", "_law_heads", "_law_at", "_law_found", "_law_word", "_law_numbers_here", "_law_kind", "_law_threads_here", "_law_line", "_law_row"] ["_law_rows"] (defScope sLRead) := ⟨rfl, rfl, rfl, by decide +kernel, rfl, by decide +kernel, by decide +kernel⟩
theorem c_lRead (T : Txt K mg w) : Cal0 P w K mg base 3 "_law_read" spLRead := by
  refine cal_of (i := 39) T rfl (by decide +kernel) scLRead (fun _ _ _ _ _ _ us hl => match us, hl with | [_], _ => rfl) (fun vs H Q E h => ?_) (fun f cdv A outer s H vs Q E hr h => ?_)
  · obtain ⟨rl, rows, rfl, _⟩ := h
    rfl
  · obtain ⟨rl, rows, rfl, hrl, hz, k⟩ := h
    refine ⟨_, (pss_cons (ps_par3 (i := 1) (j := 2) (l := 3) (by rfl) scLRead.nd (by rfl) (by rfl) (by rfl) (by decide) (by decide) (by decide) (by rfl) (by rfl) (by rfl) (pa_cons (pe_lst (pa_cons pe_str (pa_cons pe_str (pa_cons pe_str (pa_cons pe_str (pa_cons pe_str (pa_cons pe_str (pa_cons pe_str pa_nil)))))))) (pa_cons pe_int (pa_cons (pe_lst pa_nil) pa_nil))) (by rfl))
      (C8.pss_cut (ps_for PassesOwn.never (by rfl) (pi_list (pv 1)) (pg_name (i := 4) scLRead.nd (by rfl) (Or.inl (by rfl))) (C8.pss_cut (ps_set (i := 5) scLRead.nd (by rfl) (by first | exact Or.inl rfl | exact Or.inr rfl) (pe_ifExp (pt_cmpR op_lt (pv 2) (pe_callB call_len_seq (by rfl) (fr T "len") boot_len (pa_cons (pv 0) pa_nil)) (nomark _)) (C8.pe_c (c_lNums T) hr (by decide) (by rfl) (pa_cons (pe_ix ix_list (pv 0) (pv 2) (fun _ _ => rfl)) (pa_cons (pv 4) (pa_cons (pe_ifExp (pt_cmpR op_eq (pv 4) pe_str (nomark _)) pe_int pe_int) pa_nil)))) pe_non))
      (pss_cons (ps_if (pt_cmp (pc_isN (pv 5))) (pss_one (ps_ret (pe_op op_add (pv 2) pe_int))) pss_nil)
      (pss_cons (ps_expr (pe_bm PySem.F.plainAttrs_list PySem.F.slot_list_append PySem.F.type_list_append mt_append (pv 3) (pa_cons (pv 5) pa_nil)))
      (pss_one (ps_set (i := 2) scLRead.nd (by rfl) (by first | exact Or.inl rfl | exact Or.inr rfl) (pe_op op_add (pv 2) pe_int)))))))
      (C8.pss_cut (ps_par (i := 6) (j := 7) (by rfl) scLRead.nd (by rfl) (by rfl) (by decide) (by rfl) (by rfl) (pa_cons pe_non (pa_cons (pe_lst pa_nil) pa_nil)) (by rfl))
      (C8.pss_cut (ps_if (PW.pt (pw_and (pt_cmpR op_lt (pv 2) (pe_callB call_len_seq (by rfl) (fr T "len") boot_len (pa_cons (pv 0) pa_nil)) (nomark _)) (pw_and1 (pt_cmpR op_eq (pe_ix ix_list (pe_split (pe_ix ix_list (pv 0) (pv 2) (fun _ _ => rfl)) pe_str) pe_int (fun _ _ => rfl)) pe_str (nomark _))))) (pss_cons (ps_set (i := 6) scLRead.nd (by rfl) (by first | exact Or.inl rfl | exact Or.inr rfl) (pe_slice C8.sl_txt (pe_ix ix_list (pv 0) (pv 2) (fun _ _ => rfl)) (po_some pe_int) po_none))
      (pss_cons (ps_if (PW.pt (pw_or (pt_cmpR op_notIn_seq (pv 6) (pe_lst (pa_cons pe_str (pa_cons pe_str (pa_cons pe_str pa_nil)))) (by with_unfolding_all rfl)) (pw_or1 (pt_cmpR op_ne (pe_ix ix_list (pv 0) (pv 2) (fun _ _ => rfl)) (pe_op op_add_str pe_str (pv 6)) (nomark _))))) (pss_one (ps_ret (pe_op op_add (pv 2) pe_int))) pss_nil)
      (pss_one (ps_set (i := 2) scLRead.nd (by rfl) (by first | exact Or.inl rfl | exact Or.inr rfl) (pe_op op_add (pv 2) pe_int))))) pss_nil)
      (C8.pss_cut (ps_for PassesOwn.never (by rfl) (pi_list (pe_slice sl_list (pv 0) (po_some (pv 2)) po_none)) (pg_name (i := 8) scLRead.nd (by rfl) (Or.inl (by rfl))) (pss_cons (ps_set (i := 2) scLRead.nd (by rfl) (by first | exact Or.inl rfl | exact Or.inr rfl) (pe_op op_add (pv 2) pe_int))
      (pss_one (ps_if (pt_cmpR op_eq (pe_ix ix_list (pe_split (pv 8) pe_str) pe_int (fun _ _ => rfl)) pe_str (nomark _)) (C8.pss_cut (ps_set (i := 5) scLRead.nd (by rfl) (by first | exact Or.inl rfl | exact Or.inr rfl) (C8.pe_c (c_lNums T) hr (by decide) (by rfl) (pa_cons (pv 8) (pa_cons pe_str (pa_cons pe_int pa_nil)))))
      (pss_cons (ps_if (pt_cmp (pc_isN (pv 5))) (pss_one (ps_ret (pv 2))) pss_nil)
      (pss_one (ps_expr (pe_bm PySem.F.plainAttrs_list PySem.F.slot_list_append PySem.F.type_list_append mt_append (pv 7) (pa_cons (pe_tup (pa_cons (pe_ix ix_list (pv 5) pe_int (fun _ _ => rfl)) (pa_cons (pe_lst pa_nil) pa_nil))) pa_nil)))))) (C8.pss_cut (ps_set (i := 9) scLRead.nd (by rfl) (by first | exact Or.inl rfl | exact Or.inr rfl) (C8.pe_c (c_lOp T) hr (by decide) (by rfl) (pa_cons (pv 8) pa_nil)))
      (pss_cons (ps_if (PW.pt (pw_or (pt_cmp (pc_isN (pv 9))) (pw_or1 (pt_cmpR (op_eqL0 (room_u hr)) (pv 7) (pe_lst pa_nil) (nomark _))))) (pss_one (ps_ret (pv 2))) pss_nil)
      (pss_one (ps_expr (pe_bm PySem.F.plainAttrs_list PySem.F.slot_list_append PySem.F.type_list_append mt_append (pe_ix ix_tup (pe_ix ix_list (pv 7) (pe_un un_neg pe_int) (fun _ _ => rfl)) pe_int (fun _ _ => rfl)) (pa_cons (pv 9) pa_nil))))))))))
      (pss_one (ps_ret (pe_tup (pa_cons (pv 3) (pa_cons (pv 7) (pa_cons (pv 6) pa_nil))))))))))), ?_⟩
    have en := sizeLine_eq
    have hz1 := hz.1
    have ke : ∀ n, readP rows = .error n → ∀ H', Ext H H' → Q (.int (n : Nat)) H' := fun n e => by
      rw [e] at k
      exact k
    have kk : ∀ hs ths kd, readP rows = .ok (hs, ths, kd) → ∀ H' v, Ext H H' → PartsAt H' v hs ths kd → Q v H' := fun hs ths kd e => by
      rw [e] at k
      exact k
    clear k
    refine ⟨by show 7 ≤ sizeLine; omega, fun hl nhl => ⟨by show 0 ≤ sizeLine; omega, fun fl nfl => ⟨_, _, _, rfl, ?_⟩⟩⟩
    have x1 : Ext H (upd (upd H hl (.lst (heads.map V.str))) fl (.lst [])) := Ext.new (Ext.new Ext.rfl' nhl) nfl
    have hf1 : (upd (upd H hl (.lst (heads.map V.str))) fl (.lst [])) fl = some (.lst []) := upd_same
    have nflh : hl ≠ fl := fun z => by
      rw [← z] at nfl
      have y : (upd H hl (.lst (heads.map V.str))) hl = some (.lst (heads.map V.str)) := upd_same
      exact ne_of_none y nfl rfl
    have hh1 : (upd (upd H hl (.lst (heads.map V.str))) fl (.lst [])) hl = some (.lst (heads.map V.str)) := (upd_ne nflh).trans upd_same
    have nfl0 : H fl = none := Ext.free (Ext.new Ext.rfl' nhl) nfl
    have nhl0 : H hl = none := nhl
    show C8.tCut _ _ _ [some (.ref rl), some (.ref hl), some (.int 0), some (.ref fl), none, none, none, none, none, none] (upd (upd H hl (.lst (heads.map V.str))) fl (.lst []))
    generalize upd (upd H hl (.lst (heads.map V.str))) fl (.lst []) = H1 at x1 hf1 hh1 ⊢
    -- the heads
    refine ⟨fun σ' H' => ∃ vs hs w1 w2, σ' = [some (.ref rl), some (.ref hl), some (.int 7), some (.ref fl), w1, w2, none, none, none, none] ∧ Ext H H' ∧ H' fl = some (.lst vs) ∧ NumsAt fl H' vs hs ∧ readHeads rows 0 heads = .ok hs ∧ vs.length = 7 ∧ 7 ≤ rows.length, ?_, ?_⟩
    · refine ⟨_, rfl, hl, rfl, ⟨_, SqL.of hh1⟩, for_list (K := K) (a := hl) (xs := heads.map V.str) (fun i σ' H' => ∃ vs hs w1 w2, σ' = [some (.ref rl), some (.ref hl), some (.int ((i : Nat) : Int)), some (.ref fl), w1, w2, none, none, none, none] ∧ Ext H H' ∧ H' hl = some (.lst (heads.map V.str)) ∧ H' fl = some (.lst vs) ∧ NumsAt fl H' vs hs ∧
        readHeads rows 0 heads = preH hs (readHeads rows i (heads.drop i)) ∧ vs.length = i ∧ i ≤ rows.length) ⟨[], [], none, none, rfl, x1, hh1, hf1, .nil, ?_, rfl, Nat.zero_le _⟩ (fun i σ' H' _ ⟨_, _, _, _, _, _, h, _⟩ => SqL.of h) ?_ ?_⟩
      · show _ = preH [] (readHeads rows 0 heads)
        cases readHeads rows 0 heads <;> rfl
      · rintro i x σ' H2 hi ⟨vs, hs, w1, w2, rfl, x2, hh2, hf2, hn2, e2, hl2, hi2⟩
        rw [List.getElem?_map] at hi
        obtain ⟨wd, ew, rfl⟩ := Option.map_eq_some_iff.mp hi
        have hi7 : i < 7 := (List.getElem?_eq_some_iff.mp ew).1
        have ed : heads.drop i = wd :: heads.drop (i + 1) := by
          obtain ⟨lt, el⟩ := List.getElem?_eq_some_iff.mp ew
          rw [List.drop_eq_getElem_cons lt, el]
        have hrl2 := x2 _ _ hrl
        -- the numbers
        refine ⟨fun σ' H' => ∃ v, σ' = [some (.ref rl), some (.ref hl), some (.int ((i : Nat) : Int)), some (.ref fl), some (.str wd), some v, none, none, none, none] ∧ Ext H2 H' ∧ ((v = .non ∧ ((rows[i]?).bind fun line => numbersOf line wd (mostOf wd)) = none) ∨ ∃ q ns, v = .ref q ∧ H' q = some (.lst (ns.map V.int)) ∧ H2 q = none ∧ ((rows[i]?).bind fun line => numbersOf line wd (mostOf wd)) = some ns), ?_, ?_⟩
        · refine ⟨_, rfl, _, rfl, rl, _, rfl, .inl (SqL.of hrl2), _, _, rfl, rfl, _, rfl, ite2 (fun c => ?_) (fun c => ?_)⟩
          · have lt : i < rows.length := by
              have z := of_decide_eq_true c
              rw [List.length_map] at z
              omega
            have e : rows[i]? = some (rows[i]'lt) := List.getElem?_eq_getElem lt
            have hline := hz.2 _ (List.getElem_mem lt)
            generalize rows[i]'lt = line at e hline
            have step : ∀ most : Nat, most = mostOf wd → spLNums [.str line, .str wd, .int most] H2 (fun v H' => ∃ v_1, [some (.ref rl), some (.ref hl), some (.int ((i : Nat) : Int)), some (.ref fl), some (.str wd), some v, none, none, none, none] = [some (.ref rl), some (.ref hl), some (.int ((i : Nat) : Int)), some (.ref fl), some (.str wd), some v_1, none, none, none, none] ∧ Ext H2 H' ∧ ((v_1 = .non ∧ ((rows[i]?).bind fun line => numbersOf line wd (mostOf wd)) = none) ∨ ∃ q ns, v_1 = .ref q ∧ H' q = some (.lst (ns.map V.int)) ∧ H2 q = none ∧ ((rows[i]?).bind fun line => numbersOf line wd (mostOf wd)) = some ns)) C8.E0 := by
              rintro most rfl
              refine ⟨line, wd, _, rfl, hline, ?_⟩
              have eb : ((rows[i]?).bind fun line => numbersOf line wd (mostOf wd)) = numbersOf line wd (mostOf wd) := by rw [e] <;> rfl
              cases en2 : numbersOf line wd (mostOf wd) with
              | none => exact fun H3 x3 => ⟨.non, rfl, x3, .inl ⟨rfl, by rw [eb, en2]⟩⟩
              | some ns => exact fun H3 q x3 hq nq => ⟨.ref q, rfl, x3, .inr ⟨q, ns, rfl, hq, nq, by rw [eb, en2]⟩⟩
            refine ⟨_, rfl, _, rfl, rl, _, _, .str line, rfl, rfl, SqL.of hrl2, atI_nat (by rw [List.getElem?_map, e] <;> rfl), _, rfl, _, rfl, rfl, _, rfl, ite2 (fun c1 => step 3 ?_) (fun c1 => step 1 ?_)⟩
            · unfold mostOf
              rw [if_pos (V.str.inj (of_decide_eq_true c1))]
            · unfold mostOf
              rw [if_neg fun z => c1 (decide_eq_true (congrArg V.str z))]
          · have e : rows[i]? = none := by
              refine List.getElem?_eq_none ?_
              have z : ¬ ((i : Nat) : Int) < (((rows.map V.str).length : Nat) : Int) := fun z => c (decide_eq_true z)
              rw [List.length_map] at z
              omega
            exact ⟨.non, rfl, Ext.rfl', .inl ⟨rfl, by rw [e] <;> rfl⟩⟩
        rintro σ' H3 ⟨v, rfl, x3, hv⟩
        have x23 := Ext.trans x2 x3
        rcases hv with ⟨rfl, eb⟩ | ⟨q, ns, rfl, hq, nq, eb⟩
        · have er : readP rows = .error (i + 1) := by
            unfold readP
            rw [e2, ed]
            show (match preH hs (match (rows[i]?).bind fun line => numbersOf line wd (mostOf wd) with
              | none => .error (i + 1)
              | some ns => _) with | .error e => _ | .ok hs => _) = _
            rw [eb]
            rfl
          exact ⟨_, rfl, _, rfl, itT (by decide) ⟨_, rfl, _, _, rfl, rfl, ke _ er _ x23⟩⟩
        · obtain ⟨line, el, en3⟩ := Option.bind_eq_some_iff.mp eb
          have lt := (List.getElem?_eq_some_iff.mp el).1
          obtain ⟨nn, nl3⟩ := nums_ok en3
          have hm3 : mostOf wd ≤ 3 := by
            unfold mostOf
            split <;> decide
          have nqf : q ≠ fl := (ne_of_none hf2 nq).symm
          have hf3 := x3 _ _ hf2
          refine ⟨_, rfl, _, rfl, itF (by simp) ⟨_, rfl, .inl ⟨rfl, _, SqL.of hf3⟩, _, rfl, fl, vs, _, rfl, rfl, hf3, by omega, ?_⟩⟩
          refine ⟨_, rfl, _, _, rfl, rfl, vs ++ [.ref q], hs ++ [ns], _, _, rfl, Ext.putN x23 nfl0, (upd_ne nflh).trans (x3 _ _ hh2), upd_same, ?_, ?_, ?_, lt⟩
          · exact paired_app (NumsAt.keep hn2 fun b xs nb e => (upd_ne nb).trans (x3 _ _ e)) (.cons ⟨q, rfl, (upd_ne nqf).trans hq, nqf, nn, by omega⟩ .nil)
          · rw [e2, ed, ← preH_snoc]
            show preH hs (match (rows[i]?).bind fun line => numbersOf line wd (mostOf wd) with
              | none => .error (i + 1)
              | some ns => match readHeads rows (i + 1) (heads.drop (i + 1)) with
                | .error e => .error e
                | .ok r => .ok (ns :: r)) = _
            rw [eb] <;> rfl
          · rw [List.length_append, hl2]
            rfl
      · rintro σ' H2 ⟨vs, hs, w1, w2, rfl, x2, hh2, hf2, hn2, e2, hl2, hi2⟩
        refine ⟨vs, hs, w1, w2, rfl, x2, hf2, hn2, ?_, hl2, hi2⟩
        rw [e2]
        show Except.ok (hs ++ []) = _
        rw [List.append_nil]
    rintro σ' H2 ⟨vs, hs, w1, w2, rfl, x2, hf2, hn2, eh, hl7, hr7⟩
    clear x1 hf1 hh1
    -- kind, threads
    refine ⟨fun σ' H' => ∃ tl, σ' = [some (.ref rl), some (.ref hl), some (.int 7), some (.ref fl), w1, w2, some .non, some (.ref tl), none, none] ∧ H2 tl = none ∧ Ext H2 H' ∧ H' tl = some (.lst []), ⟨by show 0 ≤ sizeLine; omega, fun tl ntl => ⟨_, _, rfl, tl, rfl, ntl, Ext.new Ext.rfl' ntl, upd_same⟩⟩, ?_⟩
    rintro σ' H3 ⟨tl, rfl, ntl, x3, ht3⟩
    have x03 := Ext.trans x2 x3
    have hrl3 := x03 _ _ hrl
    have errF : readFault rows 7 = .error 8 → readP rows = .error 8 := fun e => by
      unfold readP
      rw [eh]
      show (match readFault rows 7 with | .error e => _ | .ok (k, p) => _) = _
      rw [e]
    -- the fault
    refine ⟨fun σ' H' => ∃ kd p, readFault rows 7 = .ok (kd, p) ∧ p ≤ rows.length ∧ σ' = [some (.ref rl), some (.ref hl), some (.int ((p : Nat) : Int)), some (.ref fl), w1, w2, some (optV kd), some (.ref tl), none, none] ∧ Ext H3 H', ?_, ?_⟩
    · refine ⟨_, rfl, _, rfl, rl, _, rfl, .inl (SqL.of hrl3), _, _, rfl, rfl, _, rfl, ite2 (fun c => ?_) (fun c => ?_)⟩
      rotate_left
      · have e : rows[7]? = none := by
          refine List.getElem?_eq_none ?_
          have z : ¬ ((7 : Nat) : Int) < (((rows.map V.str).length : Nat) : Int) := fun z => c (decide_eq_true z)
          rw [List.length_map] at z
          omega
        refine itF (fun z => by cases z) ⟨none, 7, ?_, hr7, rfl, Ext.rfl'⟩
        unfold readFault
        rw [e]
      have lt : 7 < rows.length := by
        have z := of_decide_eq_true c
        rw [List.length_map] at z
        omega
      have e : rows[7]? = some (rows[7]'lt) := List.getElem?_eq_getElem lt
      have hline := hz.2 _ (List.getElem_mem lt)
      generalize rows[7]'lt = line at e hline
      have at7 : atI (rows.map V.str) 7 = some (.str line) := atI_nat (j := 7) (by rw [List.getElem?_map, e] <;> rfl)
      have e0 : (Txt.split line sp).map V.str = .str (wordOf line) :: (tailOf line).map .str := by rw [split_cons] <;> rfl
      refine ⟨_, rfl, _, rfl, rl, _, 7, .str line, rfl, rfl, SqL.of hrl3, at7, ⟨_, rfl⟩, line, sp, rfl, rfl, by decide +kernel, by omega, fun wl nwl => ?_⟩
      refine ⟨wl, _, 0, .str (wordOf line), rfl, rfl, SqL.of (upd_same.trans (by rw [e0])), atI_nat (j := 0) rfl, rfl, _, rfl, ?_⟩
      have x4 : Ext H3 (upd H3 wl (.lst ((Txt.split line sp).map V.str))) := Ext.new Ext.rfl' nwl
      generalize upd H3 wl (.lst ((Txt.split line sp).map V.str)) = H4 at x4 ⊢
      refine ite2 (fun c1 => ?_) (fun c1 => ?_)
      rotate_left
      · refine ⟨none, 7, ?_, hr7, rfl, x4⟩
        unfold readFault
        rw [e]
        show (if wordOf line = "fault" then _ else _) = _
        rw [if_neg fun z => c1 (decide_eq_true (congrArg V.str z))]
      have ew : wordOf line = "fault" := V.str.inj (of_decide_eq_true c1)
      have hrl4 := x4 _ _ hrl3
      have esl : Txt.slice line (some 6) none = kindOf line := by
        have z := SX.slice_from (a := line.cps.toList) (i := 6) (by decide)
        rw [SX.S_tl] at z
        exact z
      refine ⟨_, rfl, _, rfl, rl, _, 7, .str line, rfl, rfl, SqL.of hrl4, at7, 6, rfl, line, rfl, by omega, ?_⟩
      rw [esl]
      have lk : (kindOf line).length ≤ line.length := by
        unfold kindOf
        rw [SX.S_len, List.length_drop]
        have z : line.cps.toList.length = line.length := Array.length_toList
        omega
      have l6 : ("fault " : Str).length = 6 := by decide +kernel
      have eF : readFault rows 7 = (match tailOf line with
          | [x] => if x ∈ faults then .ok (some x, 7 + 1) else .error (7 + 1)
          | _ => .error (7 + 1)) := by
        unfold readFault
        rw [e]
        show (if wordOf line = "fault" then _ else _) = _
        rw [if_pos ew] <;> rfl
      have bad : ¬ (kindOf line ∈ faults ∧ line = "fault " ++ kindOf line) → readFault rows 7 = .error 8 := fun h => by
        rw [eF]
        split
        · rename_i x ex
          obtain ⟨a, b⟩ := fault_tail ew ex
          rw [if_neg]
          intro hx
          refine h ?_
          rw [a]
          exact ⟨hx, b⟩
        · rfl
      refine ⟨_, rfl, by show 3 ≤ sizeLine; omega, fun fs nfs => ?_⟩
      refine ⟨fs, faults.map V.str, rfl, .inl (SqL.of upd_same), rfl, flat_strs _, _, rfl, ?_⟩
      have x5 : Ext H4 (upd H4 fs (.lst (faults.map V.str))) := Ext.new Ext.rfl' nfs
      have x5' : Ext H4 (upd H4 fs (.lst [V.str "take", V.str "fill", V.str "batches"])) := x5
      generalize upd H4 fs (.lst [V.str "take", V.str "fill", V.str "batches"]) = H5 at x5' ⊢
      have x05 := Ext.trans x03 (Ext.trans x4 x5')
      refine ite2 (fun c2 => ?_) (fun c2 => ?_)
      · have y : (!inV (.str (kindOf line)) (faults.map V.str)) = true := c2
        rw [in_strs, Bool.not_eq_true', decide_eq_false_iff_not] at y
        exact itT rfl ⟨_, rfl, _, _, rfl, rfl, ke _ (errF (bad fun h => y h.1)) _ x05⟩
      have y : ¬ (!inV (.str (kindOf line)) (faults.map V.str)) = true := c2
      rw [in_strs, Bool.not_eq_true', decide_eq_false_iff_not, Classical.not_not] at y
      refine ⟨_, rfl, _, rfl, rl, _, 7, .str line, rfl, rfl, SqL.of (x5' _ _ hrl4), at7, _, rfl, _, _, rfl, rfl, by omega, rfl, _, rfl, ite2 (fun c3 => ?_) (fun c3 => ?_)⟩
      · refine ⟨_, rfl, _, _, rfl, rfl, ke _ (errF (bad fun h => ?_)) _ x05⟩
        have w : (!decide (V.str line = V.str ("fault " ++ kindOf line))) = true := c3
        rw [← h.2, decide_eq_true rfl] at w
        cases w
      · have w : ¬ (!decide (V.str line = V.str ("fault " ++ kindOf line))) = true := c3
        rw [Bool.not_eq_true', decide_eq_false_iff_not, Classical.not_not] at w
        have w := V.str.inj w
        refine ⟨_, rfl, _, _, rfl, rfl, some (kindOf line), 8, ?_, lt, rfl, Ext.trans x4 x5'⟩
        rw [eF, fault_back y w]
        show (if kindOf line ∈ faults then _ else _) = _
        rw [if_pos y]
    rintro σ' H4 ⟨kd, p, eF, hp, rfl, x4⟩
    have errT : ∀ n, readThreads (rows.drop p) p [] = .error n → readP rows = .error n := fun n e => by
      unfold readP
      rw [eh]
      show (match readFault rows 7 with | .error e => _ | .ok (k, p) => (match readThreads (rows.drop p) p [] with | .error e => _ | .ok ths => _)) = _
      rw [eF]
      show (match readThreads (rows.drop p) p [] with | .error e => _ | .ok ths => _) = _
      rw [e]
    have okT : ∀ ths, readThreads (rows.drop p) p [] = .ok ths → readP rows = .ok (hs, ths, kd) := fun ths e => by
      unfold readP
      rw [eh]
      show (match readFault rows 7 with | .error e => _ | .ok (k, p) => (match readThreads (rows.drop p) p [] with | .error e => _ | .ok ths => _)) = _
      rw [eF]
      show (match readThreads (rows.drop p) p [] with | .error e => _ | .ok ths => _) = _
      rw [e]
    have x24 := Ext.trans x3 x4
    have x04 := Ext.trans x2 x24
    have ht4 := x4 _ _ ht3
    -- the threads
    refine ⟨fun σ' H' => ∃ ths B w0 w1 w2 w3 w4, σ' = [some (.ref rl), some (.ref hl), some (.int w0), some (.ref fl), w1, w2, some (optV kd), some (.ref tl), w3, w4] ∧ Ext H2 B ∧ Ext B H' ∧ Grow B tl H' ths ∧ readThreads (rows.drop p) p [] = .ok ths, ?_, ?_⟩
    rotate_left
    · rintro σ' H' ⟨ths, B, w0, w1, w2, w3, w4, rfl, xB, xH, hg, et⟩
      have x2H := Ext.trans xB xH
      refine ⟨_, rfl, _, rfl, _, rfl, by show 3 ≤ sizeLine; omega, fun a na => ?_⟩
      have x9 : Ext H' (upd H' a (.tup [.ref fl, .ref tl, optV kd])) := Ext.new Ext.rfl' na
      obtain ⟨tvs, e9, h9⟩ := (hg.ext x9).done
      refine kk _ _ _ (okT ths et) _ _ (Ext.trans x2 (Ext.trans x2H x9)) ⟨a, fl, tl, vs, tvs, rfl, upd_same, x9 _ _ (x2H _ _ hf2), paired_imp (fun a b ⟨q, e, e1, _, e2⟩ => ⟨q, e, x9 _ _ (x2H _ _ e1), e2⟩) hn2, hl7, e9, h9⟩
    refine ⟨_, rfl, _, rfl, _, rfl, rl, _, rfl, SqL.of (x04 _ _ hrl), fun sl nsl => ?_⟩
    rw [cut_from]
    have x5 : Ext H4 (upd H4 sl (.lst ((rows.map V.str).drop p))) := Ext.new Ext.rfl' nsl
    have hs5 : (upd H4 sl (.lst ((rows.map V.str).drop p))) sl = some (.lst ((rows.map V.str).drop p)) := upd_same
    generalize upd H4 sl (.lst ((rows.map V.str).drop p)) = H5 at x5 hs5 ⊢
    have ht5 := x5 _ _ ht4
    have nst : sl ≠ tl := fun z => by
      rw [z, ht4] at nsl
      cases nsl
    generalize hB : del H5 tl = B
    have BH : Ext B H5 := fun b o e => by
      rw [← hB] at e
      have nb : b ≠ tl := fun z => by
        rw [z, del_same] at e
        cases e
      rw [del_ne nb] at e
      exact e
    have Btl : B tl = none := by
      rw [← hB]
      exact del_same
    have Bsl : B sl = some (.lst ((rows.map V.str).drop p)) := by
      rw [← hB, del_ne nst]
      exact hs5
    have x2B : Ext H2 B := fun b o e => by
      rw [← hB, del_ne (ne_of_none e ntl)]
      exact x5 _ _ (x24 _ _ e)
    have x0B := Ext.trans x2 x2B
    clear hB
    refine ⟨sl, rfl, ⟨_, SqL.of hs5⟩, for_list (K := K) (a := sl) (xs := (rows.map V.str).drop p) (fun i σ' H' => ∃ acc w1 w2 w3 w4, σ' = [some (.ref rl), some (.ref hl), some (.int (((p + i : Nat) : Int))), some (.ref fl), w1, w2, some (optV kd), some (.ref tl), w3, w4] ∧ Ext B H' ∧ Grow B tl H' acc ∧ acc.length ≤ i ∧ (∀ t ∈ acc, ThB i t) ∧
      readThreads (rows.drop p) p [] = readThreads (rows.drop (p + i)) (p + i) acc) ⟨[], _, _, none, none, rfl, BH, .inl ⟨rfl, ht5⟩, Nat.le_refl _, (fun t h => nomatch h), rfl⟩ (fun i σ' H' _ ⟨_, _, _, _, _, _, h, _⟩ => SqL.of (h _ _ Bsl)) ?_ ?_⟩
    rotate_left
    · rintro σ' H' ⟨acc, w1, w2, w3, w4, rfl, xB, hg, hla, hth, er⟩
      refine ⟨acc, B, _, w1, w2, w3, w4, rfl, x2B, xB, hg, ?_⟩
      rw [er, List.drop_eq_nil_of_le (by rw [List.length_drop, List.length_map]; omega), read_nil]
    rintro i y σ' H6 hi ⟨acc, w1, w2, w3, w4, rfl, xB, hg, hla, hth, er⟩
    rw [List.getElem?_drop, List.getElem?_map] at hi
    obtain ⟨line, el, rfl⟩ := Option.map_eq_some_iff.mp hi
    obtain ⟨lt, el2⟩ := List.getElem?_eq_some_iff.mp el
    have ed : rows.drop (p + i) = line :: rows.drop (p + i + 1) := by rw [List.drop_eq_getElem_cons lt, el2]
    have hline := hz.2 _ (List.mem_of_getElem? el)
    have e0 : (Txt.split line sp).map V.str = .str (wordOf line) :: (tailOf line).map .str := by rw [split_cons] <;> rfl
    have errI : readThreads (line :: rows.drop (p + i + 1)) (p + i) acc = .error (p + i + 1) → ∀ {H' : Hp}, Ext B H' → Q (.int (((p + i : Nat) : Int) + 1)) H' := fun e {H'} x => by
      have z := ke _ (errT _ (by rw [er, ed, e])) _ (Ext.trans x0B x)
      exact z
    refine ⟨_, rfl, _, _, rfl, rfl, ?_⟩
    refine ⟨_, rfl, ⟨_, rfl⟩, line, sp, rfl, rfl, by decide +kernel, by omega, fun wl nwl => ?_⟩
    refine ⟨wl, _, 0, .str (wordOf line), rfl, rfl, SqL.of (upd_same.trans (by rw [e0])), atI_nat (j := 0) rfl, rfl, _, rfl, ?_⟩
    have x7 : Ext H6 (upd H6 wl (.lst ((Txt.split line sp).map V.str))) := Ext.new Ext.rfl' nwl
    generalize upd H6 wl (.lst ((Txt.split line sp).map V.str)) = H7 at x7 ⊢
    have xB7 := Ext.trans xB x7
    have hg7 := hg.ext x7
    refine ite2 (fun c => ?_) (fun c => ?_)
    · -- a thread
      have ew : wordOf line = "thread" := V.str.inj (of_decide_eq_true c)
      refine ⟨fun σ' H' => ∃ v, σ' = [some (.ref rl), some (.ref hl), some (.int (((p + i : Nat) : Int) + 1)), some (.ref fl), w1, some v, some (optV kd), some (.ref tl), some (.str line), w4] ∧ Ext H7 H' ∧ ((v = .non ∧ numbersOf line "thread" 1 = none) ∨ ∃ q ns, v = .ref q ∧ H' q = some (.lst (ns.map V.int)) ∧ numbersOf line "thread" 1 = some ns), ?_, ?_⟩
      · refine ⟨_, rfl, line, "thread", 1, rfl, hline, ?_⟩
        cases en2 : numbersOf line "thread" 1 with
        | none => exact fun H8 x8 => ⟨.non, rfl, x8, .inl ⟨rfl, rfl⟩⟩
        | some ns => exact fun H8 q x8 hq _ => ⟨.ref q, rfl, x8, .inr ⟨q, ns, rfl, hq, rfl⟩⟩
      rintro σ' H8 ⟨v, rfl, x8, hv⟩
      have xB8 := Ext.trans xB7 x8
      have hg8 := hg7.ext x8
      rcases hv with ⟨rfl, en2⟩ | ⟨q, ns, rfl, hq, en2⟩
      · exact ⟨_, rfl, _, rfl, itT (by decide) ⟨_, rfl, errI (read_thread_bad ew en2) xB8⟩⟩
      obtain ⟨n0, nr, ens⟩ : ∃ n0 nr, ns = n0 :: nr := by
        cases ns with
        | nil => exact absurd rfl (nums_ok en2).1
        | cons a b => exact ⟨a, b, rfl⟩
      obtain ⟨tvs, ht8, ltv, _⟩ := hg8.list
      refine ⟨_, rfl, _, rfl, itF (by simp) ⟨_, rfl, .inl ⟨rfl, _, SqL.of ht8⟩, ?_⟩⟩
      refine ⟨_, rfl, q, _, 0, .int n0, rfl, rfl, SqL.of hq, by rw [ens]; exact atI_nat (j := 0) rfl, by show 0 ≤ sizeLine; omega, fun npl h1 => ⟨by show 2 ≤ sizeLine; omega, fun tp h2 => ?_⟩⟩
      have x9 := Ext.trans (Ext.new (o := .lst []) Ext.rfl' h1) (Ext.new (o := .tup [.int n0, .ref npl]) Ext.rfl' h2)
      refine ⟨tl, tvs, _, rfl, rfl, x9 _ _ ht8, by omega, ?_⟩
      refine ⟨acc ++ [(n0, [])], _, _, _, _, rfl, Ext.putN (Ext.trans xB8 x9) Btl, Grow.new xB8 hg8 ht8 h1 h2, by rw [List.length_append]; show _ + 1 ≤ _; omega, fun t ht => ?_, ?_⟩
      · rcases List.mem_append.mp ht with z | z
        · obtain ⟨a, b⟩ := hth t z
          exact ⟨by omega, b⟩
        · rw [List.mem_singleton.mp z]
          exact ⟨Nat.zero_le _, fun o ho => nomatch ho⟩
      · rw [er, ed, read_thread ew en2, ens]
        rfl
    · -- an operation
      have nw : ¬ wordOf line = "thread" := fun z => c (decide_eq_true (congrArg V.str z))
      refine ⟨fun σ' H' => ∃ v, σ' = [some (.ref rl), some (.ref hl), some (.int (((p + i : Nat) : Int) + 1)), some (.ref fl), w1, w2, some (optV kd), some (.ref tl), some (.str line), some v] ∧ Ext H7 H' ∧ ((v = .non ∧ opOf line = none) ∨ ∃ q o, v = .ref q ∧ H' q = some (.tup (.str (Prod.fst o) :: (Prod.snd o).map .int)) ∧ opOf line = some o), ?_, ?_⟩
      · refine ⟨_, rfl, line, rfl, hline, ?_⟩
        cases eo : opOf line with
        | none => exact fun H8 x8 => ⟨.non, rfl, x8, .inl ⟨rfl, rfl⟩⟩
        | some o => exact fun H8 q x8 hq => ⟨.ref q, rfl, x8, .inr ⟨q, o, rfl, hq, rfl⟩⟩
      rintro σ' H8 ⟨v, rfl, x8, hv⟩
      have xB8 := Ext.trans xB7 x8
      have hg8 := hg7.ext x8
      rcases hv with ⟨rfl, eo⟩ | ⟨q, o, rfl, hq, eo⟩
      · exact ⟨_, rfl, _, rfl, itT (by decide) (itT rfl ⟨_, rfl, errI (read_bad nw eo) xB8⟩)⟩
      obtain ⟨tvs, ht8, ltv, hemp⟩ := hg8.list
      refine ⟨_, rfl, _, rfl, itF (by simp) ⟨_, rfl, by show 0 ≤ sizeLine; omega, fun em nem => ?_⟩⟩
      have x9 : Ext H8 (upd H8 em (.lst [])) := Ext.new Ext.rfl' nem
      refine ⟨tl, em, tvs, rfl, rfl, x9 _ _ ht8, upd_same, _, rfl, ?_⟩
      generalize upd H8 em (.lst []) = H9 at x9 ⊢
      have xB9 := Ext.trans xB8 x9
      refine ite2 (fun c2 => ?_) (fun c2 => ?_)
      · have ea := hemp.mp c2
        refine ⟨_, rfl, errI ?_ xB9⟩
        rw [ea]
        exact read_first nw
      have na : acc ≠ [] := fun z => c2 (hemp.mpr z)
      have hg9 := hg8.ext x9
      rcases hg9 with ⟨ea, _⟩ | ⟨init, t, vi, tp, pl, ops, ea, e9, e1, e2, n, e3, hp9, hb⟩
      · exact absurd ea na
      have lops : ops.length ≤ i := by
        have z := (hth t (by rw [ea]; exact List.mem_append_right _ List.mem_cons_self)).1
        rw [e3.length, List.length_map]
        exact z
      refine ⟨_, rfl, 1, rfl, tl, _, -1, .ref tp, rfl, rfl, SqL.of e9, atI_last _ _, tp, _, 1, .ref pl, rfl, rfl, SqT.of e1, atI_nat (j := 1) rfl, .inl ⟨rfl, _, SqL.of e2⟩, _, rfl, pl, ops, _, rfl, rfl, e2, by omega, ?_⟩
      refine ⟨addOp o acc, _, _, _, _, rfl, Ext.putN xB9 hb, ?_, by rw [addOp_len]; omega, addOp_b (op_two eo) hth, ?_⟩
      · rw [ea]
        exact Grow.op e9 e1 e2 n e3 hp9 hb (x9 _ _ hq)
      · rw [er, ed, read_op nw eo na]
        rfl
end
end Hf
end
section
set_option maxHeartbeats 4000000
/-! D12: the law's own machine; what a text says. -/
namespace Hf
open PySem PySem.Spec PyProof.Rows L2
def spBuilt (K : Fg) : Sp := fun vs H Q E => ∃ v hs ths k, vs = [v] ∧ PartsAt H v hs ths k ∧ (∀ t ∈ ths, ThZ t) ∧ List.length ths ≤ 100000 ∧ FaultOk (settOf hs ths k) ∧
  (match machineErr (settOf hs ths k) with
    | some nm => ∀ d H', Ext H H' → H' d = some (.xd [("name", .str nm)]) → E (.ref (cI K)) (some d) H'
    | none => ∀ H' x, Ext H H' → MachAt K H' x (settOf hs ths k) → H x = none → Q (.ref x) H')
section
variable {X : Cx} {k j : Nat} {x : Str} {sp : Sp} {E : L2.St → XK} {p pos : Pos} {e : Expr} {es : List Expr} {t : TA}
theorem pe_xS (c : CalX X.prog X.w X.K X.mg X.base k x sp) (hr : Room j X.A) (hk : k ≤ j) (hx : ∀ σ, PassesAt (L2.CX X.prog X.w) X σ (E σ)) (hg : Gl X x) (ha : PA X (e :: es) t)
    (hdb : (x == ("__debug__" : Str)) = false := by decide) (he : starEach (e :: es) X.env = (false, eval e X.env) :: starEach es X.env := by rfl) (hpl : (backTo pos (starEach es X.env)).any (·.1) = false := by rfl) :
    PE X (.Call (.Name x p) (e :: es) [] pos) (tCallS sp E t) := by
  obtain ⟨f, fd, ps, F, hm, kp, b⟩ := c.ex
  exact pe_callS F (hr.mono hk) hg hm kp b hx ha hdb he hpl
end
section
variable {P : Program} {w : World} {K : Fg} {mg : Str → Option Value} {base : Heap}
theorem scLBuilt : FnScope ["_law_parts", "_law_heads", "_law_threads_here", "_law_kind", "_law_rest", "_law_row"] ["_law_parts"] (defScope sLBuilt) := ⟨rfl, rfl, rfl, by decide +kernel, rfl, by decide +kernel, by decide +kernel⟩
theorem c_built (T : Txt K mg w) : CalX P w K mg base 8 "_law_built" (spBuilt K) := by
  refine calX_of (i := 40) T rfl (by decide +kernel) scLBuilt (fun _ _ _ _ _ _ us hl => match us, hl with | [_], _ => rfl) (fun vs H Q E h => ?_) (fun f cdv A outer s H vs Q E hr h => ?_)
  · obtain ⟨v, hs, ths, k, rfl, _⟩ := h
    rfl
  · obtain ⟨v, hs, ths, kd, rfl, ⟨pa, fl, tl, vs, tvs, rfl, hpa, hfl, hnum, hl7, htl, hth⟩, hz, hz2, hfo, k⟩ := h
    have tk : Takes (cxOf (L2.CX P w) P w K mg base ["_law_parts", "_law_heads", "_law_threads_here", "_law_kind", "_law_rest", "_law_row"] "_law_built" (defScope sLBuilt) f cdv A outer s H E) (fun cls d _ H => E cls d H) := takes_of rfl rfl rfl rfl
    obtain ⟨mfd, mps, MF, mgB, MB⟩ := f_MInit (P := P) (base := base) T
    refine ⟨_, (pss_cons (ps_asg (pv 0) (pg_tup (by rfl) (pgs_cons (pg_name (i := 1) scLBuilt.nd (by rfl) (Or.inl (by rfl))) (pgs_cons (pg_name (i := 2) scLBuilt.nd (by rfl) (Or.inl (by rfl))) (pgs_cons (pg_name (i := 3) scLBuilt.nd (by rfl) (Or.inl (by rfl))) pgs_nil)))))
      (pss_cons (ps_setLc (i := 4) (own := [("_law_row", 5)]) (g := (gName 5)) (te := tOp (rIxL K) (tVar 5) (tC (.int 0))) (by rfl) scLBuilt.nd (by rfl) (by rfl) (sw_true rfl rfl rfl (by decide +kernel)) (pi_list (pe_slice sl_list (pv 1) (po_some pe_int) po_none)) (blkOk_by (N := ["_law_parts", "_law_heads", "_law_threads_here", "_law_kind", "_law_rest", "_law_row"]) (sc := defScope sLBuilt) (by decide +kernel)) (fun _ _ _ _ _ => by exact (pg_name (i := 5) scLBuilt.nd (by rfl) (Or.inl (by rfl)))) (fun _ _ _ _ _ => by exact pts_nil) (fun _ _ _ _ _ => by exact (pe_ix ix_list (pv 5) pe_int (fun _ _ => rfl))))
      (pss_one (ps_ret (pe_makeK T.mMk MF (hr.mono (by decide)) (by rfl) (T.glo "Machine" (by decide +kernel)) MB (passes_call tk fun _ _ _ _ h => h) (pa_cons (pe_ix ix_list (pe_ix ix_list (pv 1) pe_int (fun _ _ => rfl)) pe_int (fun _ _ => rfl)) (pa_cons (pe_ix ix_list (pv 1) pe_int (fun _ _ => rfl)) (pa_cons (pv 2) pa_nil))) (pk_cons (pe_ix ix_list (pv 4) pe_int (fun _ _ => rfl)) (pk_cons (pe_ix ix_list (pv 4) pe_int (fun _ _ => rfl)) (pk_cons (pe_ix ix_list (pv 4) pe_int (fun _ _ => rfl)) (pk_cons (pe_ix ix_list (pv 4) pe_int (fun _ _ => rfl)) (pk_cons (pe_ix ix_list (pv 4) pe_int (fun _ _ => rfl)) (pk_cons (pv 3) pk_nil))))))))))), ?_⟩
    have at0 : ∀ {h : List Int}, h ≠ [] → atI (h.map V.int) 0 = some (V.int (h.headD 0)) := fun {h} ne => by
      cases h with
      | nil => exact absurd rfl ne
      | cons a b => exact atI_nat (j := 0) rfl
    refine ⟨_, rfl, pa, _, rfl, SqT.of hpa, rfl, _, _, rfl, _, _, rfl, _, _, rfl, rfl, ?_⟩
    match vs, hs, hnum, hl7 with
    | [v0, v1, v2, v3, v4, v5, v6], [h0, h1, h2, h3, h4, h5, h6], .cons ⟨q0, e0, g0, n0, _⟩ (.cons ⟨q1, e1, g1, n1, z1⟩ (.cons ⟨q2, e2, g2, n2, _⟩ (.cons ⟨q3, e3, g3, n3, _⟩ (.cons ⟨q4, e4, g4, n4, _⟩ (.cons ⟨q5, e5, g5, n5, _⟩ (.cons ⟨q6, e6, g6, n6, _⟩ .nil)))))), _ =>
      subst e0 e1 e2 e3 e4 e5 e6
      refine ⟨_, rfl, _, rfl, fl, _, rfl, SqL.of hfl, fun sl nsl => ?_⟩
      have x1 : Ext H (upd H sl (.lst [.ref q2, .ref q3, .ref q4, .ref q5, .ref q6])) := Ext.new Ext.rfl' nsl
      have hs1 : (upd H sl (.lst [.ref q2, .ref q3, .ref q4, .ref q5, .ref q6])) sl = some (.lst [.ref q2, .ref q3, .ref q4, .ref q5, .ref q6]) := upd_same
      rw [show cutV [V.ref q0, V.ref q1, V.ref q2, V.ref q3, V.ref q4, V.ref q5, V.ref q6] (some (2 : Int)) none = [V.ref q2, V.ref q3, V.ref q4, V.ref q5, V.ref q6] from cut_from _ 2]
      generalize upd H sl (.lst [V.ref q2, V.ref q3, V.ref q4, V.ref q5, V.ref q6]) = H1 at x1 hs1 ⊢
      refine ⟨sl, rfl, ⟨_, SqL.of hs1⟩, fun D hD => ?_⟩
      refine lc_ext (walk_list (K := K) (a := sl) (xs := [V.ref q2, V.ref q3, V.ref q4, V.ref q5, V.ref q6])) (fun i _ y => ∃ h : List Int, [h2, h3, h4, h5, h6][i]? = some h ∧ y = .int (h.headD 0)) (fun _ _ _ _ _ h => h) hD (by show 5 ≤ 100000; decide) (fun H' x => SqL.of (x _ _ hs1)) ?_ ?_
      · rintro i y H3 H4 C hi x3 ⟨rfl, ex⟩ hC
        have xx := Ext.trans x1 x3
        match i, ex with
        | 0, ex => cases ex; exact ⟨rfl, _, rfl, q2, _, 0, _, rfl, rfl, SqL.of (xx _ _ g2), at0 n2, hC _ _ Ext.rfl' ⟨h2, rfl, rfl⟩⟩
        | 1, ex => cases ex; exact ⟨rfl, _, rfl, q3, _, 0, _, rfl, rfl, SqL.of (xx _ _ g3), at0 n3, hC _ _ Ext.rfl' ⟨h3, rfl, rfl⟩⟩
        | 2, ex => cases ex; exact ⟨rfl, _, rfl, q4, _, 0, _, rfl, rfl, SqL.of (xx _ _ g4), at0 n4, hC _ _ Ext.rfl' ⟨h4, rfl, rfl⟩⟩
        | 3, ex => cases ex; exact ⟨rfl, _, rfl, q5, _, 0, _, rfl, rfl, SqL.of (xx _ _ g5), at0 n5, hC _ _ Ext.rfl' ⟨h5, rfl, rfl⟩⟩
        | 4, ex => cases ex; exact ⟨rfl, _, rfl, q6, _, 0, _, rfl, rfl, SqL.of (xx _ _ g6), at0 n6, hC _ _ Ext.rfl' ⟨h6, rfl, rfl⟩⟩
        | n + 5, ex => cases ex
      intro H3 zs x3 hD3 hl3 hr3
      have ez : zs = [h2, h3, h4, h5, h6].map fun h => V.int (h.headD 0) := list_map hl3 fun i y e => hr3 i y e
      rw [ez] at hD3
      have xx := Ext.trans x1 x3
      refine ⟨_, rfl, fl, _, 0, _, rfl, rfl, SqL.of (xx _ _ hfl), atI_nat (j := 0) rfl, q0, _, 0, _, rfl, rfl, SqL.of (xx _ _ g0), at0 n0, _, rfl, fl, _, 1, _, rfl, rfl, SqL.of (xx _ _ hfl), atI_nat (j := 1) rfl, _, rfl, ?_⟩
      refine ⟨_, rfl, D, _, 0, _, rfl, rfl, SqL.of hD3, atI_nat (j := 0) rfl, _, rfl, D, _, 1, _, rfl, rfl, SqL.of hD3, atI_nat (j := 1) rfl, _, rfl, D, _, 2, _, rfl, rfl, SqL.of hD3, atI_nat (j := 2) rfl, _, rfl, D, _, 3, _, rfl, rfl, SqL.of hD3, atI_nat (j := 3) rfl, _, rfl, D, _, 4, _, rfl, rfl, SqL.of hD3, atI_nat (j := 4) rfl, _, rfl, rfl, rfl, fun x mx nx nmx ne => ?_⟩
      have x5 : Ext H3 (upd (upd H3 mx (.own x)) x (.ins (cM K) mx [])) := Ext.new (Ext.new Ext.rfl' nmx) ((upd_ne ne.symm).trans nx)
      have e5 : (upd (upd H3 mx (.own x)) x (.ins (cM K) mx [])) x = some (.ins (cM K) mx []) := upd_same
      generalize upd (upd H3 mx (.own x)) x (.ins (cM K) mx []) = H5 at x5 e5 ⊢
      have x05 := Ext.trans xx x5
      have nxH : H x = none := Ext.free xx nx
      refine ⟨x, mx, q1, tl, settOf [h0, h1, h2, h3, h4, h5, h6] ths kd, tvs, rfl, e5, x05 _ _ g1, x05 _ _ htl, paired_imp (fun a b h => h.ext x05) hth, by show h1.length ≤ 100000; omega, hz2, hz, hfo, ?_⟩
      cases em : machineErr (settOf [h0, h1, h2, h3, h4, h5, h6] ths kd) with
      | some nm =>
        rw [em] at k
        exact fun d H' xb e => k d H' (ExtB.gone x05 nxH xb) e
      | none =>
        rw [em] at k
        exact fun H' xb hm => ⟨rfl, k H' x (ExtB.gone x05 nxH xb) hm nxH⟩
/-! ### what a text says -/
def spSaid (K : Fg) : Sp := fun vs H Q _ => ∃ txt, ∃ way : Int, vs = [.str txt, .int way] ∧ txt.length ≤ 80000 ∧ NoRep (Txt.split txt nl) ∧
  (match saidOf (Txt.split txt nl) with
    | .line n => ∀ H' l, Ext H H' → H' l = some (.lst [.str "line", .int (n : Nat)]) → Q (.ref l) H'
    | .mach nm => ∀ H' l, Ext H H' → H' l = some (.lst [.str "machine", .str nm]) → Q (.ref l) H'
    | .ok s => ∀ H' x, Ext H H' → MachAt K H' x s → H x = none → Q (.ref x) H')
theorem saidOf_P (rows : List Str) : saidOf rows = match readP rows with
    | .error n => .line n
    | .ok (hs, ths, k) => match machineErr (settOf hs ths k) with
      | some nm => .mach nm
      | none => .ok (settOf hs ths k) := by
  unfold saidOf
  rw [readM_P]
  cases readP rows with
  | error e => rfl
  | ok y =>
    obtain ⟨hs, ths, k⟩ := y
    rfl
theorem readP_z {rows : List Str} {hs : List (List Int)} {ths : List Thr} {k : Option Str} (h : readP rows = .ok (hs, ths, k)) (hz : RowsZ rows) : (∀ t ∈ ths, ThZ t) ∧ ths.length ≤ 100000 ∧ FaultOk (settOf hs ths k) := by
  unfold readP at h
  split at h
  · cases h
  · split at h
    · cases h
    · rename_i hs' _ k' p ef
      split at h
      · cases h
      · rename_i ths' et
        cases h
        have hz1 := hz.1
        obtain ⟨b1, b2⟩ := read_b (B := 0) et (fun t h => nomatch h)
        rw [List.length_drop] at b1
        rw [List.length_drop] at b2
        refine ⟨fun t ht => ⟨by have := (b2 t ht).1; omega, fun o ho => by have := (b2 t ht).2 o ho; omega⟩, by have : ([] : List Thr).length = 0 := rfl; omega, (fault_ok ef).1⟩
theorem scLSaid : FnScope ["_law_text_here", "_law_way", "_law_found", "e"] ["_law_text_here", "_law_way"] (defScope sLSaid) := ⟨rfl, rfl, rfl, by decide +kernel, rfl, by decide +kernel, by decide +kernel⟩
theorem c_said (T : Txt K mg w) : Cal0 P w K mg base 9 "_law_said" (spSaid K) := by
  refine cal_of (i := 41) T rfl (by decide +kernel) scLSaid (fun _ _ _ _ _ _ us hl => match us, hl with | [_, _], _ => rfl) (fun vs H Q E h => ?_) (fun f cdv A outer s H vs Q E hr h => ?_)
  · obtain ⟨txt, way, rfl, _⟩ := h
    rfl
  · obtain ⟨txt, way, rfl, hlen, hn, k⟩ := h
    refine ⟨_, pss_one (ps_try_as2 (i := 3) (tb := fun W => tSeq (tIfS (tTest (tOp rEq (tVar 1) (tC (.int 0)))) (tRet (tCallS (spParse K) (WE W) (tCons (tVar 0) tNil))) tNext) (tSeq (tAsg (tCall spLRead [] C8.E0 (tCons (tM1 (fun x xs H Q => ∃ a b, x = V.str a ∧ xs = [V.str b] ∧ (b.length == 0) = false ∧ a.length + 2 ≤ sizeLine ∧ rNewStrs (Txt.split a b) H Q) (tVar 0) (tC (.str nl))) tNil)) (gName 2)) (tRet (tIf (tB (tCB (rIsi K) (tCons (tVar 2) (tCons (tC (.ty "int")) tNil)))) (tLst (tCons (tC (.str "line")) (tCons (tVar 2) tNil))) (tCallS (spBuilt K) (WE W) (tCons (tVar 2) tNil))))))
      (t1 := fun a cls d => tRet (tLst (tCons (tC (.str "line")) (tCons (tXf a cls d (cP K) "line" (tVar 3)) tNil)))) (t2 := fun a cls d => tRet (tLst (tCons (tC (.str "machine")) (tCons (tXf a cls d (cI K) "name" (tVar 3)) tNil))))
      rfl rfl scLSaid.nd rfl rfl ⟨rfl, by decide, .inl (T.glo "ParseError" (by decide +kernel))⟩ ⟨rfl, by decide, .inl (T.glo "InvalidMachine" (by decide +kernel))⟩ (fun W pn xe tk2 _ => by exact (pss_cons (ps_if (pt_cmpR op_eq (pv 1) pe_int (nomark _)) (pss_one (ps_ret (pe_xS (c_parse T) hr (by decide) (fun σ => passAt tk2 σ) (by rfl) (pa_cons (pv 0) pa_nil)))) pss_nil) (pss_cons (ps_set (i := 2) scLSaid.nd rfl (Or.inl rfl) (C8.pe_c (c_lRead T) hr (by decide) (by rfl) (pa_cons (pe_split (pv 0) pe_str) pa_nil))) (pss_one (ps_ret (pe_ifExp (pt_val (pe_callB call_isi (by rfl) (fr T "isinstance") boot_isinstance (pa_cons (pv 2) (pa_cons (pe_ty (by rfl) (fr T "int") boot_int) pa_nil)))) (pe_lst (pa_cons pe_str (pa_cons (pv 2) pa_nil))) (pe_xS (c_built T) hr (by decide) (fun σ => passAt tk2 σ) (by rfl) (pa_cons (pv 2) pa_nil))))))))
      (fun a oe cls d pn hz hf => pss_one (ps_ret (pe_lst (pa_cons pe_str (pa_cons (pe_xf T.xP.xf T.xP.no hz hf (pv 3)) pa_nil)))))
      (fun a oe cls d pn hz hf => pss_one (ps_ret (pe_lst (pa_cons pe_str (pa_cons (pe_xf T.xI.xf T.xI.no hz hf (pv 3)) pa_nil)))))), ?_⟩
    have en := sizeLine_eq
    have hz := rowsZ_split hlen
    have hP : ∀ (n : Nat) (w2 : Option V) (d : Addr) (H' : Hp), saidOf (Txt.split txt nl) = .line n → Ext H H' → H' d = some (.xd [("line", .int (n : Nat))]) →
        wAs2 K (.ref (cP K)) (.ref (cI K)) 3 (fun a cls d => tRet (tLst (tCons (tC (.str "line")) (tCons (tXf a cls d (cP K) "line" (tVar 3)) tNil)))) (fun a cls d => tRet (tLst (tCons (tC (.str "machine")) (tCons (tXf a cls d (cI K) "name" (tVar 3)) tNil))))
          { nx := fun _ H' => Q .non H', rt := Q } (.ref (cP K)) (some d) [some (.str txt), some (.int way), w2, none] H' := fun n w2 d H' e x hd => by
      rw [e] at k
      refine ⟨true, T.ePP, fun _ a na => ?_, fun z => by cases z⟩
      exact ⟨_, rfl, rfl, rfl, d, _, _, rfl, hd, look1 _ _, by show 2 ≤ sizeLine; omega, fun l nl => k _ l (Ext.new x nl) upd_same⟩
    have hI : ∀ (nm : Str) (w2 : Option V) (d : Addr) (H' : Hp), saidOf (Txt.split txt nl) = .mach nm → Ext H H' → H' d = some (.xd [("name", .str nm)]) →
        wAs2 K (.ref (cP K)) (.ref (cI K)) 3 (fun a cls d => tRet (tLst (tCons (tC (.str "line")) (tCons (tXf a cls d (cP K) "line" (tVar 3)) tNil)))) (fun a cls d => tRet (tLst (tCons (tC (.str "machine")) (tCons (tXf a cls d (cI K) "name" (tVar 3)) tNil))))
          { nx := fun _ H' => Q .non H', rt := Q } (.ref (cI K)) (some d) [some (.str txt), some (.int way), w2, none] H' := fun nm w2 d H' e x hd => by
      rw [e] at k
      refine ⟨false, T.eIP, (fun z => by cases z), fun _ => ⟨T.eII, fun a na => ?_⟩⟩
      exact ⟨_, rfl, rfl, rfl, d, _, _, rfl, hd, look1 _ _, by show 2 ≤ sizeLine; omega, fun l nl => k _ l (Ext.new x nl) upd_same⟩
    refine ⟨_, rfl, rfl, _, rfl, ite2 (fun c => ?_) (fun c => ?_)⟩
    · refine ⟨_, rfl, txt, rfl, hlen, hn, ?_⟩
      cases hS : saidOf (Txt.split txt nl) with
      | line n => exact fun d H' x e => hP n _ d H' hS x e
      | mach nm => exact fun d H' x e => hI nm _ d H' hS x e
      | ok s =>
        rw [hS] at k
        exact fun H' x xe hm nx => k H' x xe hm nx
    · refine ⟨_, rfl, ⟨_, rfl⟩, txt, nl, rfl, rfl, by decide +kernel, by omega, fun rl nrl => ?_⟩
      have x1 : Ext H (upd H rl (.lst ((Txt.split txt nl).map V.str))) := Ext.new Ext.rfl' nrl
      refine ⟨rl, Txt.split txt nl, rfl, upd_same, hz, ?_⟩
      have hsaid := saidOf_P (Txt.split txt nl)
      cases hp : readP (Txt.split txt nl) with
      | error n =>
        rw [hp] at hsaid
        have hsaid : saidOf (Txt.split txt nl) = .line n := hsaid
        rw [hsaid] at k
        intro H2 x2
        refine ⟨_, rfl, _, _, .type "int", _, true, rfl, .ty "int", .base (.int _), kit_ty (by decide +kernel), _, rfl, itT rfl ?_⟩
        exact ⟨_, rfl, by show 2 ≤ sizeLine; omega, fun l nl => k _ l (Ext.new (Ext.trans x1 x2) nl) upd_same⟩
      | ok y =>
        obtain ⟨hs, ths, kd⟩ := y
        rw [hp] at hsaid
        obtain ⟨z1, z2, z3⟩ := readP_z hp hz
        intro H2 v x2 hv
        have x12 := Ext.trans x1 x2
        obtain ⟨pa, fl, tl, vs, tvs, rfl, hpa, _⟩ := id hv
        refine ⟨_, rfl, _, _, .type "tuple", _, false, rfl, .ty "int", .base (.tup hpa), kit_ty (by decide +kernel), _, rfl, itF (by decide) ?_⟩
        refine ⟨_, rfl, _, hs, ths, kd, rfl, hv, z1, z2, z3, ?_⟩
        cases em : machineErr (settOf hs ths kd) with
        | some nm =>
          have hsaid : saidOf (Txt.split txt nl) = .mach nm := by
            rw [hsaid]
            show (match machineErr (settOf hs ths kd) with | some nm => Said.mach nm | none => _) = _
            rw [em]
          exact fun d H' x e => hI nm _ d H' hsaid (Ext.trans x12 x) e
        | none =>
          have hsaid : saidOf (Txt.split txt nl) = .ok (settOf hs ths kd) := by
            rw [hsaid]
            show (match machineErr (settOf hs ths kd) with | some nm => Said.mach nm | none => _) = _
            rw [em]
          rw [hsaid] at k
          exact fun H' x xe hm nx => k H' x (Ext.trans x12 xe) hm (Ext.free x12 nx)
end
end Hf
end
section
set_option maxHeartbeats 4000000
/-! D13: the law's pool of draws. -/
namespace Hf
open PySem PySem.Spec PyProof.Rows L2
/-- a pool of draws at p -/
def PoolAt (H : Hp) (p : Addr) : Prop := ∃ x y : Int, H p = some (.lst [.int x, .int y])
def spPool (K : Fg) : Sp := fun vs H Q _ => ∃ a, ∃ ns : List Int, ∃ kk : Int, vs = [.ref a, .int kk] ∧ SqL K H a (ns.map V.int) ∧ 0 ≤ kk ∧ kk ≤ 100 ∧ ns.length ≤ 63 ∧ ∀ H' p, Ext H H' → PoolAt H' p → H p = none → Q (.ref p) H'
def spTake : Sp := fun vs H Q _ => ∃ p, ∃ m : Int, vs = [.ref p, .int m] ∧ PoolAt H p ∧ 0 < m ∧ m < 1000000 ∧ ∀ H', ∀ d : Int, ExtB p H H' → PoolAt H' p → 0 ≤ d → d < m → Q (.int d) H'
theorem head0 (xs : List V) : ∃ v r, xs ++ [V.int 0] = v :: r ∧ (v ∈ xs ∨ v = .int 0) := by
  cases xs with
  | nil => exact ⟨_, _, rfl, .inr rfl⟩
  | cons x r => exact ⟨x, r ++ [.int 0], rfl, .inl List.mem_cons_self⟩
section
variable {P : Program} {w : World} {K : Fg} {mg : Str → Option Value} {base : Heap}
theorem scPool : FnScope ["_law_script", "_law_k", "_law_cell", "_law_number", "_law_mixed"] ["_law_script", "_law_k"] (defScope sPool) := ⟨rfl, rfl, rfl, by decide +kernel, rfl, by decide +kernel, by decide +kernel⟩
theorem c_pool (T : Txt K mg w) : Cal0 P w K mg base 1 "_law_pool" (spPool K) := by
  refine cal_of (i := 32) T rfl (by decide +kernel) scPool (fun _ _ _ _ _ _ us hl => match us, hl with | [_, _], _ => rfl) (fun vs H Q E h => ?_) (fun f cdv A outer s H vs Q E hr h => ?_)
  · obtain ⟨a, ns, kk, rfl, _⟩ := h
    rfl
  · obtain ⟨a, ns, kk, rfl, hS, k0, k1, hl, k⟩ := h
    refine ⟨_, (C8.pss_cut (ps_set (i := 2) scPool.nd (by rfl) (by first | exact Or.inl rfl | exact Or.inr rfl) (pe_ix ix_list (pe_op op_cat (pe_slice sl_list (pv 0) (po_some (pv 1)) (po_some (pe_op op_add (pv 1) pe_int))) (pe_lst (pa_cons pe_int pa_nil))) pe_int (fun _ _ => rfl)))
      (C8.pss_cut (ps_set (i := 3) scPool.nd (by rfl) (by first | exact Or.inl rfl | exact Or.inr rfl) (pe_ifExp (pt_cmpR op_ge (pv 2) pe_int (nomark _)) (pv 2) (pe_op op_sub (pe_un un_neg pe_int) (pv 2))))
      (C8.pss_cut (ps_set (i := 4) scPool.nd (by rfl) (by first | exact Or.inl rfl | exact Or.inr rfl) (pe_op op_mod (pe_op op_mul (pe_callTy call_int1 (by rfl) (fr T "int") boot_int (pa_cons (pe_op op_add (pe_op op_add (pe_op op_add (pe_op op_mod (pv 3) pe_int) (pe_op op_mul (pe_op op_mul pe_int (pv 1)) (pv 1))) (pe_op op_mul pe_int (pv 1))) pe_int) pa_nil)) pe_int) pe_int))
      (pss_one (ps_ret (pe_lst (pa_cons (pe_op op_mul (pv 3) (pe_callTy call_int1 (by rfl) (fr T "int") boot_int (pa_cons (pe_cmpR op_ge (pv 3) (pe_op op_pow pe_int pe_int) (nomark _)) pa_nil))) (pa_cons (pe_op op_mod (pe_op op_mul (pv 4) (pv 4)) pe_int) pa_nil)))))))), ?_⟩
    have en := sizeLine_eq
    refine ⟨fun σ' H' => ∃ c : Int, σ' = [some (.ref a), some (.int kk), some (.int c), none, none] ∧ Ext H H', ?_, ?_⟩
    · refine ⟨_, rfl, _, rfl, _, rfl, _, rfl, _, _, rfl, rfl, _, rfl, a, _, rfl, hS, fun p np => ?_⟩
      have x1 : Ext H (upd H p (.lst (cutV (ns.map V.int) (some kk) (some (kk + 1))))) := Ext.new Ext.rfl' np
      refine ⟨by show 1 ≤ sizeLine; omega, fun q nq => ?_⟩
      have x2 := Ext.new (o := .lst [V.int 0]) x1 nq
      have lc : (cutV (ns.map V.int) (some kk) (some (kk + 1))).length ≤ 63 := by
        unfold cutV
        rw [List.length_take, List.length_drop, List.length_map]
        omega
      refine ⟨p, q, _, _, rfl, rfl, (upd_ne (ne_of_none upd_same nq)).trans upd_same, upd_same, by rw [List.length_singleton]; omega, fun r nr => ?_⟩
      have x3 := Ext.new (o := .lst (cutV (ns.map V.int) (some kk) (some (kk + 1)) ++ [V.int 0])) x2 nr
      obtain ⟨v, rr, e, hv⟩ := head0 (cutV (ns.map V.int) (some kk) (some (kk + 1)))
      obtain ⟨c, rfl⟩ : ∃ c, v = .int c := by
        rcases hv with h | h
        · have h2 : v ∈ ns.map V.int := List.mem_of_mem_drop (List.mem_of_mem_take h)
          obtain ⟨c, _, rfl⟩ := List.mem_map.mp h2
          exact ⟨c, rfl⟩
        · exact ⟨0, h⟩
      exact ⟨r, _, 0, .int c, rfl, rfl, SqL.of upd_same, by rw [e]; exact atI_nat (j := 0) rfl, c, rfl, x3⟩
    rintro σ' H1 ⟨c, rfl, x1⟩
    refine ⟨fun σ' H' => H' = H1 ∧ ∃ n : Int, σ' = [some (.ref a), some (.int kk), some (.int c), some (.int n), none], ?_, ?_⟩
    · refine ⟨_, rfl, _, _, rfl, rfl, _, rfl, ite2 (fun _ => ⟨_, rfl, rfl, _, rfl⟩) (fun _ => ⟨1, rfl, _, rfl, _, _, rfl, rfl, rfl, _, rfl⟩)⟩
    rintro σ' H' ⟨rfl, n, rfl⟩
    refine ⟨fun σ' H'' => H'' = H' ∧ ∃ m : Int, 0 ≤ m ∧ m < 2147483647 ∧ σ' = [some (.ref a), some (.int kk), some (.int c), some (.int n), some (.int m)], ?_, ?_⟩
    · refine ⟨_, rfl, _, _, rfl, rfl, (by show (0 : Int) < 2147483629; decide), _, rfl, _, _, rfl, rfl, .inl (by decide), _, rfl, _, _, rfl, rfl, .inr (by constructor <;> omega), _, _, rfl, rfl, _, rfl, _, _, rfl, rfl, .inl (by decide), _, _, rfl, rfl, _, _, rfl, rfl, .inl ⟨_, rfl, _, _, rfl, rfl, .inr (by decide), _, _, rfl, rfl, (by show (0 : Int) < 2147483647; decide), rfl, _, ?_, ?_, rfl⟩⟩
      · exact Int.emod_nonneg _ (by decide)
      · exact Int.emod_lt_of_pos _ (by decide)
    rintro σ' _ ⟨rfl, m, m0, m1, rfl⟩
    refine ⟨_, rfl, _, rfl, _, _, rfl, rfl, ⟨by decide, by decide, by decide⟩, _, _, rfl, rfl, .inr ⟨_, rfl, _, _, rfl, rfl, .inr ?_, _, rfl, _, rfl, _, _, rfl, rfl, .inl (by constructor <;> omega), _, _, rfl, rfl, (by show (0 : Int) < 2147483629; decide), by show 2 ≤ sizeLine; omega, fun p np => ?_⟩⟩
    · split <;> decide
    · exact k _ p (Ext.new x1 np) ⟨_, _, upd_same⟩ (Ext.free x1 np)
theorem scTake : FnScope ["_law_pool_here", "_law_many", "_law_digit"] ["_law_pool_here", "_law_many"] (defScope sTake) := ⟨rfl, rfl, rfl, by decide +kernel, rfl, by decide +kernel, by decide +kernel⟩
theorem c_take (T : Txt K mg w) : Cal0 P w K mg base 1 "_law_take" spTake := by
  refine cal_of (i := 33) T rfl (by decide +kernel) scTake (fun _ _ _ _ _ _ us hl => match us, hl with | [_, _], _ => rfl) (fun vs H Q E h => ?_) (fun f cdv A outer s H vs Q E hr h => ?_)
  · obtain ⟨p, m, rfl, _⟩ := h
    rfl
  · obtain ⟨p, m, rfl, ⟨x, y, hp⟩, m0, m1, k⟩ := h
    refine ⟨_, (pss_cons (ps_if (pt_cmpR op_gt (pe_ix ix_list (pv 0) pe_int (fun _ _ => rfl)) pe_int (nomark _)) (pss_cons (ps_set (i := 2) scTake.nd (by rfl) (by first | exact Or.inl rfl | exact Or.inr rfl) (pe_op op_mod (pe_callTy call_int1 (by rfl) (fr T "int") boot_int (pa_cons (pe_ix ix_list (pv 0) pe_int (fun _ _ => rfl)) pa_nil)) (pv 1)))
      (pss_cons (ps_asg (pe_op op_fdiv (pe_ix ix_list (pv 0) pe_int (fun _ _ => rfl)) (pv 1)) (pg_sub (pv 0) pe_int set_list))
      (pss_one (ps_ret (pv 2))))) pss_nil)
      (pss_cons (ps_asg (pe_op op_mod (pe_callTy call_int1 (by rfl) (fr T "int") boot_int (pa_cons (pe_op op_add (pe_op op_mul (pe_ix ix_list (pv 0) pe_int (fun _ _ => rfl)) pe_int) pe_int) pa_nil)) pe_int) (pg_sub (pv 0) pe_int set_list))
      (pss_one (ps_ret (pe_op op_mod (pe_op op_fdiv (pe_op op_mod (pe_callTy call_int1 (by rfl) (fr T "int") boot_int (pa_cons (pe_op op_mul (pe_ix ix_list (pv 0) pe_int (fun _ _ => rfl)) (pe_ix ix_list (pv 0) pe_int (fun _ _ => rfl))) pa_nil)) pe_int) pe_int) (pv 1)))))), ?_⟩
    have a0 : ∀ x y : Int, atI [V.int x, V.int y] 0 = some (.int x) := fun x y => atI_nat (j := 0) rfl
    have a1 : ∀ x y : Int, atI [V.int x, V.int y] 1 = some (.int y) := fun x y => atI_nat (j := 1) rfl
    refine ⟨_, rfl, p, _, 0, _, rfl, rfl, SqL.of hp, a0 x y, _, _, rfl, rfl, _, rfl, ite2 (fun c => ?_) (fun c => ?_)⟩
    · refine ⟨_, rfl, p, _, 0, _, rfl, rfl, SqL.of hp, a0 x y, .inl ⟨_, rfl, _, rfl, _, _, rfl, rfl, m0, ?_⟩⟩
      refine ⟨_, rfl, p, _, 0, _, rfl, rfl, SqL.of hp, a0 x y, _, rfl, _, _, rfl, rfl, ⟨m0, by omega⟩, _, rfl, p, _, 0, 0, rfl, rfl, hp, rfl, ?_⟩
      exact ⟨_, rfl, k _ _ (ExtB.put ExtB.rfl') ⟨_, _, upd_same⟩ (Int.emod_nonneg _ (by omega)) (Int.emod_lt_of_pos _ m0)⟩
    · refine ⟨_, rfl, p, _, 1, _, rfl, rfl, SqL.of hp, a1 x y, _, _, rfl, rfl, .inr (by decide), _, _, rfl, rfl, .inl ⟨_, rfl, _, _, rfl, rfl, (by show (0 : Int) < 2147483647; decide), _, rfl, p, _, 1, 1, rfl, rfl, hp, rfl, ?_⟩⟩
      have b0 : 0 ≤ (y * 48271 + 12345) % 2147483647 := Int.emod_nonneg _ (by decide)
      have b1 : (y * 48271 + 12345) % 2147483647 < 2147483647 := Int.emod_lt_of_pos _ (by decide)
      have e1 : [V.int x, V.int y].set 1 (V.int ((y * 48271 + 12345) % 2147483647)) = [V.int x, V.int ((y * 48271 + 12345) % 2147483647)] := rfl
      refine ⟨_, rfl, p, _, 1, _, rfl, rfl, SqL.of upd_same, a1 _ _, _, rfl, p, _, 1, _, rfl, rfl, SqL.of upd_same, a1 _ _, _, _, rfl, rfl, .inl (by constructor <;> omega), .inl ⟨_, rfl, _, _, rfl, rfl, (by show (0 : Int) < 2147483629; decide), _, _, rfl, rfl, ⟨by decide, by decide⟩, _, rfl, _, _, rfl, rfl, m0, ?_⟩⟩
      exact k _ _ (ExtB.put ExtB.rfl') ⟨_, _, upd_same⟩ (Int.emod_nonneg _ (by omega)) (Int.emod_lt_of_pos _ m0)
end
end Hf
end
section
set_option maxHeartbeats 4000000
/-! D14: the law's drawn machines. -/
namespace Hf
open PySem PySem.Spec PyProof.Rows L2
abbrev opc (w : Str) (ns : List Int) : Op := (w, ns)
/-- a drawn operation -/
def GenOp (kinds slots : Int) (o : Op) : Prop := (∃ a s, o = opc "alloc" [a, s] ∧ 0 ≤ a ∧ a < kinds ∧ 0 ≤ s ∧ s < slots) ∨ (∃ s, (o = opc "free" [s] ∨ o = opc "adopt" [s] ∨ o = opc "grow" [s]) ∧ 0 ≤ s ∧ s < slots) ∨
  (∃ n s, o = opc "large" [n, s] ∧ 1 ≤ n ∧ n ≤ 3 ∧ 0 ≤ s ∧ s < slots) ∨ o = opc "drain" []
def spLProg : Sp := fun vs H Q _ => ∃ p, ∃ kinds slots : Int, vs = [.ref p, .int kinds, .int slots, .int 5] ∧ PoolAt H p ∧ 1 ≤ kinds ∧ kinds ≤ 3 ∧ 1 ≤ slots ∧ slots ≤ 3 ∧
  ∀ H' q ws, ∀ ops : List Op, ExtB p H H' → PoolAt H' p → H' q = some (.tup ws) → TpL H' ws (ops.map opD) → ops.length ≤ 5 → (∀ o ∈ ops, GenOp kinds slots o) → H q = none → Q (.ref q) H'
theorem PoolAt.tk {H H' : Hp} {p : Addr} (h : PoolAt H p) (x : ExtB p H H') : TK H H' := by
  obtain ⟨a, b, e⟩ := h
  exact TK.ofB x fun xs z => by
    rw [e] at z
    cases z
theorem PoolAt.ne {H : Hp} {p q : Addr} (h : PoolAt H p) (n : H q = none) : q ≠ p := fun z => by
  obtain ⟨a, b, e⟩ := h
  rw [z, e] at n
  cases n
theorem PoolAt.ext {H H' : Hp} {p : Addr} (x : Ext H H') (h : PoolAt H p) : PoolAt H' p := by
  obtain ⟨a, b, e⟩ := h
  exact ⟨a, b, x _ _ e⟩
section
variable {P : Program} {w : World} {K : Fg} {mg : Str → Option Value} {base : Heap}
theorem scLProg : FnScope ["_law_pool_here", "_law_kinds", "_law_slots_here", "_law_most", "_law_found", "_law_turn", "_law_way", "_law_slot"] ["_law_pool_here", "_law_kinds", "_law_slots_here", "_law_most"] (defScope sLProg) := ⟨rfl, rfl, rfl, by decide +kernel, rfl, by decide +kernel, by decide +kernel⟩
theorem c_lProg (T : Txt K mg w) : Cal0 P w K mg base 2 "_law_program" spLProg := by
  refine cal_of (i := 34) T rfl (by decide +kernel) scLProg (fun _ _ _ _ _ _ us hl => match us, hl with | [_, _, _, _], _ => rfl) (fun vs H Q E h => ?_) (fun f cdv A outer s H vs Q E hr h => ?_)
  · obtain ⟨p, kinds, slots, rfl, _⟩ := h
    rfl
  · obtain ⟨p, kinds, slots, rfl, hp, k0, k1, s0, s1, k⟩ := h
    refine ⟨_, (pss_cons (ps_set (i := 4) scLProg.nd (by rfl) (by first | exact Or.inl rfl | exact Or.inr rfl) (pe_lst pa_nil))
      (pss_cons (ps_for PassesOwn.never (by rfl) (pi_range1 (by rfl) (fr T "range") (pa_cons (C8.pe_c (c_take T) hr (by decide) (by rfl) (pa_cons (pv 0) (pa_cons (pe_op op_add (pv 3) pe_int) pa_nil))) pa_nil)) (pg_name (i := 5) scLProg.nd (by rfl) (Or.inl (by rfl))) (C8.pss_cut (ps_par (i := 6) (j := 7) (by rfl) scLProg.nd (by rfl) (by rfl) (by decide) (by rfl) (by rfl) (pa_cons (C8.pe_c (c_take T) hr (by decide) (by rfl) (pa_cons (pv 0) (pa_cons pe_int pa_nil))) (pa_cons (C8.pe_c (c_take T) hr (by decide) (by rfl) (pa_cons (pv 0) (pa_cons (pv 2) pa_nil))) pa_nil)) (by rfl))
      (pss_one (ps_if (pt_cmpR op_lt (pv 6) pe_int (nomark _)) (pss_one (ps_expr (pe_bm PySem.F.plainAttrs_list PySem.F.slot_list_append PySem.F.type_list_append mt_append (pv 4) (pa_cons (pe_tup (pa_cons pe_str (pa_cons (C8.pe_c (c_take T) hr (by decide) (by rfl) (pa_cons (pv 0) (pa_cons (pv 1) pa_nil))) (pa_cons (pv 7) pa_nil)))) pa_nil)))) (pss_one (ps_if (pt_cmpR op_lt (pv 6) pe_int (nomark _)) (pss_one (ps_expr (pe_bm PySem.F.plainAttrs_list PySem.F.slot_list_append PySem.F.type_list_append mt_append (pv 4) (pa_cons (pe_tup (pa_cons pe_str (pa_cons (pv 7) pa_nil))) pa_nil)))) (pss_one (ps_if (pt_cmpR op_eq (pv 6) pe_int (nomark _)) (pss_one (ps_expr (pe_bm PySem.F.plainAttrs_list PySem.F.slot_list_append PySem.F.type_list_append mt_append (pv 4) (pa_cons (pe_ix ix_list (pe_lst (pa_cons (pe_tup (pa_cons pe_str (pa_cons (pe_op op_add pe_int (C8.pe_c (c_take T) hr (by decide) (by rfl) (pa_cons (pv 0) (pa_cons pe_int pa_nil)))) (pa_cons (pv 7) pa_nil)))) (pa_cons (pe_tup (pa_cons pe_str (pa_cons (pv 7) pa_nil))) pa_nil))) (C8.pe_c (c_take T) hr (by decide) (by rfl) (pa_cons (pv 0) (pa_cons pe_int pa_nil))) (fun _ _ => rfl)) pa_nil)))) (pss_one (ps_expr (pe_bm PySem.F.plainAttrs_list PySem.F.slot_list_append PySem.F.type_list_append mt_append (pv 4) (pa_cons (pe_ix ix_list (pe_lst (pa_cons (pe_tup (pa_cons pe_str (pa_cons (pv 7) pa_nil))) (pa_cons (pe_tup (pa_cons pe_str pa_nil)) pa_nil))) (pe_op op_sub (pv 6) pe_int) (fun _ _ => rfl)) pa_nil))))))))))))
      (pss_one (ps_ret (pe_callTy call_tuple_of (by rfl) (fr T "tuple") boot_tuple (pa_cons (pv 4) pa_nil)))))), ?_⟩
    have en := sizeLine_eq
    refine ⟨by show 0 ≤ sizeLine; omega, fun fl nfl => ?_⟩
    have x0 : Ext H (upd H fl (.lst [])) := Ext.new Ext.rfl' nfl
    have hf0 : (upd H fl (.lst [])) fl = some (.lst []) := upd_same
    have nfp := hp.ne nfl
    have hp0 := hp.ext x0
    generalize upd H fl (.lst []) = H0 at x0 hf0 hp0 ⊢
    refine ⟨_, rfl, _, rfl, _, _, rfl, rfl, p, _, rfl, hp0, by decide, by decide, fun H1 d xB1 hp1 d0 d1 => ⟨d, rfl, by omega, by omega, ?_⟩⟩
    have xH1 := ExtB.trans (ExtB.of x0) xB1
    have hf1 := xB1 _ _ nfp hf0
    refine for_range (lo := 0) (n := d.toNat) (fun i σ' H' => ∃ w1 w2 w3 vs, ∃ ops : List Op, σ' = [some (.ref p), some (.int kinds), some (.int slots), some (.int 5), some (.ref fl), w1, w2, w3] ∧ ExtB p H H' ∧ PoolAt H' p ∧ H' fl = some (.lst vs) ∧ TpL H' vs (ops.map opD) ∧ ops.length = i ∧ ∀ o ∈ ops, GenOp kinds slots o)
      ⟨none, none, none, [], [], rfl, xH1, hp1, hf1, .nil, rfl, fun o h => nomatch h⟩ ?_ ?_
    rotate_left
    · rintro σ' H2 ⟨w1, w2, w3, vs, ops, rfl, x2, hp2, hf2, ht2, hl2, hg2⟩
      refine ⟨_, rfl, fl, vs, rfl, .inl ⟨SqL.of hf2, fun q nq => ?_⟩⟩
      have x3 : Ext H2 (upd H2 q (.tup vs)) := Ext.new Ext.rfl' nq
      exact k _ q vs ops (ExtB.trans x2 (ExtB.of x3)) (hp2.ext x3) upd_same (TpL.mono (TK.of x3) _ _ ht2) (by omega) hg2 (ExtB.free x2 (by obtain ⟨a, b, e⟩ := hp2; exact ⟨_, e⟩) nq)
    rintro i σ' H2 hi ⟨w1, w2, w3, vs, ops, rfl, x2, hp2, hf2, ht2, hl2, hg2⟩
    have hlv : vs.length = i := by rw [ht2.length, List.length_map, hl2]
    -- way, slot
    refine ⟨fun σ' H' => ∃ way slot : Int, σ' = [some (.ref p), some (.int kinds), some (.int slots), some (.int 5), some (.ref fl), some (.int (0 + i)), some (.int way), some (.int slot)] ∧ ExtB p H2 H' ∧ PoolAt H' p ∧ 0 ≤ way ∧ way < 12 ∧ 0 ≤ slot ∧ slot < slots, ?_, ?_⟩
    · refine ⟨_, rfl, p, 12, rfl, hp2, by decide, by decide, fun H3 d1 x3 hp3 a0 a1 => ?_⟩
      refine ⟨_, rfl, _, rfl, p, slots, rfl, hp3, by omega, by omega, fun H4 d2 x4 hp4 b0 b1 => ⟨_, _, rfl, d1, d2, rfl, ExtB.trans x3 x4, hp4, a0, a1, b0, b1⟩⟩
    rintro σ' H3 ⟨way, slot, rfl, x3, hp3, a0, a1, b0, b1⟩
    have hf3 := x3 _ _ nfp hf2
    have ht3 := TpL.mono (hp2.tk x3) _ _ ht2
    have xH3 := ExtB.trans x2 x3
    have fin : ∀ {H4 : Hp} {tp : Addr} {o : Op}, ExtB p H3 H4 → PoolAt H4 p → H4 tp = some (.tup (.str o.1 :: o.2.map V.int)) → GenOp kinds slots o →
        H4 fl = some (.lst vs) ∧ vs.length < sizeLine ∧ ∃ w1 w2 w3 us, ∃ ops : List Op, [some (V.ref p), some (.int kinds), some (.int slots), some (.int 5), some (.ref fl), some (.int (0 + i)), some (.int way), some (.int slot)] = [some (.ref p), some (.int kinds), some (.int slots), some (.int 5), some (.ref fl), w1, w2, w3] ∧
          ExtB p H (upd H4 fl (.lst (vs ++ [.ref tp]))) ∧ PoolAt (upd H4 fl (.lst (vs ++ [.ref tp]))) p ∧ (upd H4 fl (.lst (vs ++ [.ref tp]))) fl = some (.lst us) ∧ TpL (upd H4 fl (.lst (vs ++ [.ref tp]))) us (ops.map opD) ∧ ops.length = i + 1 ∧ ∀ o ∈ ops, GenOp kinds slots o := fun {H4 tp o} x4 hp4 ht4 hg => by
      have hf4 := x4 _ _ nfp hf3
      have kk : TK H4 (upd H4 fl (.lst (vs ++ [.ref tp]))) := TK.put fun xs z => by
        rw [hf4] at z
        cases z
      refine ⟨hf4, by omega, _, _, _, vs ++ [.ref tp], ops ++ [o], rfl, ExtB.putN (ExtB.trans xH3 x4) nfl, ?_, upd_same, ?_, by rw [List.length_append, hl2]; rfl, fun q hq => ?_⟩
      · obtain ⟨a, b, e⟩ := hp4
        exact ⟨a, b, (upd_ne nfp.symm).trans e⟩
      · rw [List.map_append]
        exact TpL.app (TpL.mono (TK.trans (hp3.tk x4) kk) _ _ ht3) (.cons (Tp.of_op (kk _ _ ht4)) .nil)
      · rcases List.mem_append.mp hq with z | z
        · exact hg2 q z
        · rw [List.mem_singleton.mp z]
          exact hg
    have go : ∀ {H4 : Hp} {tp : Addr} {xs : List V}, H4 tp = none → ExtB p H3 H4 → PoolAt H4 p → ExtB p H3 (upd H4 tp (.tup xs)) ∧ PoolAt (upd H4 tp (.tup xs)) p := fun {H4 tp xs} n x4 hp4 => ⟨ExtB.new x4 n, hp4.ext (Ext.new Ext.rfl' n)⟩
    refine ⟨_, rfl, _, _, rfl, rfl, _, rfl, ite2 (fun c => ?_) (fun c => ?_)⟩
    · refine ⟨_, rfl, .inl ⟨rfl, _, SqL.of hf3⟩, _, rfl, _, rfl, p, kinds, rfl, hp3, by omega, by omega, fun H4 d2 x4 hp4 c0 c1 => ⟨_, rfl, by show 3 ≤ sizeLine; omega, fun tp ntp => ?_⟩⟩
      obtain ⟨x5, hp5⟩ := go ntp x4 hp4
      obtain ⟨hf, hl, res⟩ := fin (o := opc "alloc" [d2, slot]) x5 hp5 upd_same (.inl ⟨d2, slot, rfl, c0, c1, b0, b1⟩)
      exact ⟨fl, vs, _, rfl, rfl, hf, hl, res⟩
    refine ⟨_, rfl, _, _, rfl, rfl, _, rfl, ite2 (fun c => ?_) (fun c => ?_)⟩
    · refine ⟨_, rfl, .inl ⟨rfl, _, SqL.of hf3⟩, _, rfl, by show 2 ≤ sizeLine; omega, fun tp ntp => ?_⟩
      obtain ⟨x5, hp5⟩ := go ntp ExtB.rfl' hp3
      obtain ⟨hf, hl, res⟩ := fin (o := opc "free" [slot]) x5 hp5 upd_same (.inr (.inl ⟨slot, .inl rfl, b0, b1⟩))
      exact ⟨fl, vs, _, rfl, rfl, hf, hl, res⟩
    refine ⟨_, rfl, rfl, _, rfl, ite2 (fun c => ?_) (fun c => ?_)⟩
    · refine ⟨_, rfl, .inl ⟨rfl, _, SqL.of hf3⟩, _, rfl, p, 3, rfl, hp3, by decide, by decide, fun H4 d1 x4 hp4 c0 c1 => ⟨_, _, rfl, rfl, _, rfl, by show 3 ≤ sizeLine; omega, fun t1 n1 => ?_⟩⟩
      obtain ⟨x5, hp5⟩ := go n1 x4 hp4
      have e1 : (upd H4 t1 (.tup [.str "large", .int (1 + d1), .int slot])) t1 = some (.tup [.str "large", .int (1 + d1), .int slot]) := upd_same
      generalize upd H4 t1 (.tup [.str "large", .int (1 + d1), .int slot]) = H5 at x5 hp5 e1 ⊢
      refine ⟨_, rfl, by show 2 ≤ sizeLine; omega, fun t2 n2 => ?_⟩
      obtain ⟨x6, hp6⟩ := go n2 x5 hp5
      have e2 : (upd H5 t2 (.tup [.str "grow", .int slot])) t2 = some (.tup [.str "grow", .int slot]) := upd_same
      have y6 : Ext H5 (upd H5 t2 (.tup [.str "grow", .int slot])) := Ext.new Ext.rfl' n2
      generalize upd H5 t2 (.tup [.str "grow", .int slot]) = H6 at x6 hp6 e2 y6 ⊢
      refine ⟨by show 2 ≤ sizeLine; omega, fun l nl => ?_⟩
      have y7 : Ext H6 (upd H6 l (.lst [.ref t1, .ref t2])) := Ext.new Ext.rfl' nl
      have el : (upd H6 l (.lst [.ref t1, .ref t2])) l = some (.lst [.ref t1, .ref t2]) := upd_same
      have x7 : ExtB p H3 (upd H6 l (.lst [.ref t1, .ref t2])) := ExtB.new x6 nl
      have hp7 := hp6.ext y7
      have nlp := hp6.ne nl
      generalize upd H6 l (.lst [.ref t1, .ref t2]) = H7 at x7 hp7 el y7 ⊢
      refine ⟨_, rfl, p, 2, rfl, hp7, by decide, by decide, fun H8 d2 x8 hp8 c2 c3 => ?_⟩
      have kk := hp7.tk x8
      have el8 := x8 _ _ nlp el
      have x38 := ExtB.trans x7 x8
      have f1 := kk _ _ (y7 _ _ (y6 _ _ e1))
      have f2 := kk _ _ (y7 _ _ e2)
      rcases Int.lt_or_le d2 1 with h | h
      · have ed : d2 = 0 := by omega
        subst ed
        obtain ⟨hf, hl, res⟩ := fin (o := opc "large" [1 + d1, slot]) x38 hp8 f1 (.inr (.inr (.inl ⟨1 + d1, slot, rfl, by omega, by omega, b0, b1⟩)))
        exact ⟨l, _, 0, .ref t1, rfl, rfl, SqL.of el8, atI_nat (j := 0) rfl, fl, vs, _, rfl, rfl, hf, hl, res⟩
      · have ed : d2 = 1 := by omega
        subst ed
        obtain ⟨hf, hl, res⟩ := fin (o := opc "grow" [slot]) x38 hp8 f2 (.inr (.inl ⟨slot, .inr (.inr rfl), b0, b1⟩))
        exact ⟨l, _, 1, .ref t2, rfl, rfl, SqL.of el8, atI_nat (j := 1) rfl, fl, vs, _, rfl, rfl, hf, hl, res⟩
    · have w5 : ¬ way < 5 := fun z => by
        rename_i c5 _
        exact c5 (decide_eq_true z)
      have w9 : ¬ way < 9 := fun z => by
        rename_i c9
        exact c9 (decide_eq_true z)
      have wn : ¬ way = 9 := fun z => c (decide_eq_true (congrArg V.int z))
      refine ⟨_, rfl, .inl ⟨rfl, _, SqL.of hf3⟩, _, rfl, by show 2 ≤ sizeLine; omega, fun t1 n1 => ?_⟩
      obtain ⟨x5, hp5⟩ := go n1 ExtB.rfl' hp3
      have e1 : (upd H3 t1 (.tup [.str "adopt", .int slot])) t1 = some (.tup [.str "adopt", .int slot]) := upd_same
      generalize upd H3 t1 (.tup [.str "adopt", .int slot]) = H5 at x5 hp5 e1 ⊢
      refine ⟨by show 1 ≤ sizeLine; omega, fun t2 n2 => ?_⟩
      obtain ⟨x6, hp6⟩ := go n2 x5 hp5
      have e2 : (upd H5 t2 (.tup [.str "drain"])) t2 = some (.tup [.str "drain"]) := upd_same
      have y6 : Ext H5 (upd H5 t2 (.tup [.str "drain"])) := Ext.new Ext.rfl' n2
      generalize upd H5 t2 (.tup [.str "drain"]) = H6 at x6 hp6 e2 y6 ⊢
      refine ⟨by show 2 ≤ sizeLine; omega, fun l nl => ?_⟩
      have y7 : Ext H6 (upd H6 l (.lst [.ref t1, .ref t2])) := Ext.new Ext.rfl' nl
      have el : (upd H6 l (.lst [.ref t1, .ref t2])) l = some (.lst [.ref t1, .ref t2]) := upd_same
      have x7 : ExtB p H3 (upd H6 l (.lst [.ref t1, .ref t2])) := ExtB.new x6 nl
      have hp7 := hp6.ext y7
      generalize upd H6 l (.lst [.ref t1, .ref t2]) = H7 at x7 hp7 el y7 ⊢
      rcases Int.lt_or_le way 11 with h | h
      · have ed : way = 10 := by omega
        subst ed
        obtain ⟨hf, hl, res⟩ := fin (o := opc "adopt" [slot]) x7 hp7 (y7 _ _ (y6 _ _ e1)) (.inr (.inl ⟨slot, .inr (.inl rfl), b0, b1⟩))
        exact ⟨_, rfl, _, _, rfl, rfl, l, _, 0, .ref t1, rfl, rfl, SqL.of el, atI_nat (j := 0) rfl, fl, vs, _, rfl, rfl, hf, hl, res⟩
      · have ed : way = 11 := by omega
        subst ed
        obtain ⟨hf, hl, res⟩ := fin (o := opc "drain" []) x7 hp7 (y7 _ _ e2) (.inr (.inr (.inr rfl)))
        exact ⟨_, rfl, _, _, rfl, rfl, l, _, 1, .ref t2, rfl, rfl, SqL.of el, atI_nat (j := 1) rfl, fl, vs, _, rfl, rfl, hf, hl, res⟩
end
end Hf
end
section
set_option maxHeartbeats 4000000
/-! D15: the law's drawn settings. -/
namespace Hf
open PySem PySem.Spec PyProof.Rows L2
/-- a drawn machine -/
structure Gen (s : Sett) : Prop where
  so : 1 ≤ s.sockets ∧ s.sockets ≤ 4
  cn : 1 ≤ s.classes.length ∧ s.classes.length ≤ 3
  ci : ∀ i ∈ s.classes, 1 ≤ i ∧ i ≤ 8
  tn : 1 ≤ s.threads.length ∧ s.threads.length ≤ 4
  ti : ∀ t ∈ s.threads, 0 ≤ t.1 ∧ t.1 < s.sockets ∧ t.2.length ≤ 5 ∧ ∀ o ∈ t.2, GenOp s.classes.length s.slots o
  pa : 1 ≤ s.pages ∧ s.pages ≤ 5
  ba : 1 ≤ s.batch ∧ s.batch ≤ 8
  sa : 0 ≤ s.spare ∧ s.spare ≤ 8
  sl : 1 ≤ s.slots ∧ s.slots ≤ 3
  st : 0 ≤ s.stops ∧ s.stops ≤ 4
/-- the settings s (but the fault) stand at q -/
def MAt (H : Hp) (q : Addr) (s : Sett) : Prop := ∃ cp tp ths, H q = some (.tup [.int s.sockets, .ref cp, .ref tp, .int s.pages, .int s.batch, .int s.spare, .int s.slots, .int s.stops]) ∧ H cp = some (.tup (s.classes.map .int)) ∧ H tp = some (.tup ths) ∧ TpL H ths (s.threads.map thrD)
theorem MAt.tk {H H' : Hp} {q : Addr} {s : Sett} (k : TK H H') (h : MAt H q s) : MAt H' q s := by
  obtain ⟨cp, tp, ths, a, b, c, d⟩ := h
  exact ⟨cp, tp, ths, k _ _ a, k _ _ b, k _ _ c, TpL.mono k _ _ d⟩
def spLSett : Sp := fun vs H Q _ => ∃ p, vs = [.ref p, .int 5] ∧ PoolAt H p ∧ ∀ H' q s, ExtB p H H' → PoolAt H' p → MAt H' q s → Gen s → Q (.ref q) H'
section
variable {P : Program} {w : World} {K : Fg} {mg : Str → Option Value} {base : Heap}
theorem scLSett : FnScope ["_law_pool_here", "_law_most", "_law_wide", "_law_sockets", "_law_kinds", "_law_slots_here", "_law_classes", "_law_threads", "_law_turn", "_law_batch_here", "_law_rest", "_law_kind"] ["_law_pool_here", "_law_most"] (defScope sLSett) := ⟨rfl, rfl, rfl, by decide +kernel, rfl, by decide +kernel, by decide +kernel⟩
theorem c_lSett (T : Txt K mg w) : Cal0 P w K mg base 3 "_law_settings" spLSett := by
  refine cal_of (i := 35) T rfl (by decide +kernel) scLSett (fun _ _ _ _ _ _ us hl => match us, hl with | [_, _], _ => rfl) (fun vs H Q E h => ?_) (fun f cdv A outer s H vs Q E hr h => ?_)
  · obtain ⟨p, rfl, _⟩ := h
    rfl
  · obtain ⟨p, rfl, hp, k⟩ := h
    refine ⟨_, (C8.pss_cut (ps_set (i := 2) scLSett.nd (by rfl) (by first | exact Or.inl rfl | exact Or.inr rfl) (C8.pe_c (c_take T) hr (by decide) (by rfl) (pa_cons (pv 0) (pa_cons pe_int pa_nil))))
      (C8.pss_cut (ps_par3 (i := 3) (j := 4) (l := 5) (by rfl) scLSett.nd (by rfl) (by rfl) (by rfl) (by decide) (by decide) (by decide) (by rfl) (by rfl) (by rfl) (pa_cons (pe_op op_add pe_int (C8.pe_c (c_take T) hr (by decide) (by rfl) (pa_cons (pv 0) (pa_cons (pe_op op_add pe_int (pv 2)) pa_nil)))) (pa_cons (pe_op op_add pe_int (C8.pe_c (c_take T) hr (by decide) (by rfl) (pa_cons (pv 0) (pa_cons (pe_op op_add pe_int (pv 2)) pa_nil)))) (pa_cons (pe_op op_add pe_int (C8.pe_c (c_take T) hr (by decide) (by rfl) (pa_cons (pv 0) (pa_cons pe_int pa_nil)))) pa_nil))) (by rfl))
      (C8.pss_cut (ps_set (i := 6) scLSett.nd (by rfl) (by first | exact Or.inl rfl | exact Or.inr rfl) (pe_callTy call_tuple_of (by rfl) (fr T "tuple") boot_tuple (pa_cons (pe_lc (own := [("_law_kind", 11)]) (g := (gName 11))  (by rfl) scLSett.nd (pi_range1 (by rfl) (fr T "range") (pa_cons (pv 4) pa_nil)) (blkOk_by (N := ["_law_pool_here", "_law_most", "_law_wide", "_law_sockets", "_law_kinds", "_law_slots_here", "_law_classes", "_law_threads", "_law_turn", "_law_batch_here", "_law_rest", "_law_kind"]) (sc := defScope sLSett) (by decide +kernel)) (fun _ _ _ _ _ => by exact (pg_name (i := 11) scLSett.nd (by rfl) (Or.inl (by rfl)))) (fun _ _ _ _ _ => by exact pts_nil) (fun _ _ _ _ _ => by exact (pe_op op_add pe_int (C8.pe_c (c_take T) hr (by decide) (by rfl) (pa_cons (pv 0) (pa_cons (pe_op op_add pe_int (pe_op op_mul pe_int (pv 2))) pa_nil)))))) pa_nil)))
      (C8.pss_cut (ps_set (i := 7) scLSett.nd (by rfl) (by first | exact Or.inl rfl | exact Or.inr rfl) (pe_lst pa_nil))
      (C8.pss_cut (ps_for PassesOwn.never (by rfl) (pi_range1 (by rfl) (fr T "range") (pa_cons (pe_op op_add pe_int (C8.pe_c (c_take T) hr (by decide) (by rfl) (pa_cons (pv 0) (pa_cons (pe_op op_add pe_int (pv 2)) pa_nil)))) pa_nil)) (pg_name (i := 8) scLSett.nd (by rfl) (Or.inl (by rfl))) (pss_one (ps_expr (pe_bm PySem.F.plainAttrs_list PySem.F.slot_list_append PySem.F.type_list_append mt_append (pv 7) (pa_cons (pe_tup (pa_cons (C8.pe_c (c_take T) hr (by decide) (by rfl) (pa_cons (pv 0) (pa_cons (pv 3) pa_nil))) (pa_cons (C8.pe_c (c_lProg T) hr (by decide) (by rfl) (pa_cons (pv 0) (pa_cons (pv 4) (pa_cons (pv 5) (pa_cons (pv 1) pa_nil))))) pa_nil))) pa_nil)))))
      (C8.pss_cut (ps_set (i := 9) scLSett.nd (by rfl) (by first | exact Or.inl rfl | exact Or.inr rfl) (pe_op op_add pe_int (C8.pe_c (c_take T) hr (by decide) (by rfl) (pa_cons (pv 0) (pa_cons (pe_op op_add pe_int (pe_op op_mul pe_int (pv 2))) pa_nil)))))
      (C8.pss_cut (ps_set (i := 10) scLSett.nd (by rfl) (by first | exact Or.inl rfl | exact Or.inr rfl) (pe_tup (pa_cons (pe_op op_add pe_int (C8.pe_c (c_take T) hr (by decide) (by rfl) (pa_cons (pv 0) (pa_cons pe_int pa_nil)))) (pa_cons (pv 9) (pa_cons (C8.pe_c (c_take T) hr (by decide) (by rfl) (pa_cons (pv 0) (pa_cons (pe_op op_add pe_int (pe_op op_mul pe_int (pv 2))) pa_nil))) pa_nil)))))
      (pss_one (ps_ret (pe_op op_catA (pe_op op_catA (pe_tup (pa_cons (pv 3) (pa_cons (pv 6) (pa_cons (pe_callTy call_tuple_of (by rfl) (fr T "tuple") boot_tuple (pa_cons (pv 7) pa_nil)) pa_nil)))) (pv 10)) (pe_tup (pa_cons (pv 5) (pa_cons (C8.pe_c (c_take T) hr (by decide) (by rfl) (pa_cons (pv 0) (pa_cons (pe_op op_add pe_int (pe_op op_mul pe_int (pv 2))) pa_nil))) pa_nil))))))))))))), ?_⟩
    have en := sizeLine_eq
    -- wide
    refine ⟨fun σ' H' => ∃ wd : Int, 0 ≤ wd ∧ wd ≤ 1 ∧ σ' = [some (.ref p), some (.int 5), some (.int wd), none, none, none, none, none, none, none, none, none] ∧ ExtB p H H' ∧ PoolAt H' p, ?_, ?_⟩
    · exact ⟨_, rfl, p, 2, rfl, hp, by decide, by decide, fun H1 d x1 hp1 d0 d1 => ⟨d, d0, by omega, rfl, x1, hp1⟩⟩
    rintro σ' H1 ⟨wd, wd0, wd1, rfl, x1, hp1⟩
    -- sockets, kinds, slots
    refine ⟨fun σ' H' => ∃ so ki sl : Int, 1 ≤ so ∧ so ≤ 4 ∧ 1 ≤ ki ∧ ki ≤ 3 ∧ 1 ≤ sl ∧ sl ≤ 3 ∧ σ' = [some (.ref p), some (.int 5), some (.int wd), some (.int so), some (.int ki), some (.int sl), none, none, none, none, none, none] ∧ ExtB p H H' ∧ PoolAt H' p, ?_, ?_⟩
    · refine ⟨_, rfl, _, rfl, _, _, rfl, rfl, p, _, rfl, hp1, by omega, by omega, fun H2 d x2 hp2 d0 d1 => ⟨_, _, rfl, rfl, ?_⟩⟩
      refine ⟨_, rfl, _, rfl, _, _, rfl, rfl, p, _, rfl, hp2, by omega, by omega, fun H3 e x3 hp3 e0 e1 => ⟨_, _, rfl, rfl, ?_⟩⟩
      refine ⟨_, rfl, p, 3, rfl, hp3, by decide, by decide, fun H4 g x4 hp4 g0 g1 => ⟨_, _, rfl, rfl, _, _, _, rfl, ?_⟩⟩
      exact ⟨_, _, _, by omega, by omega, by omega, by omega, by omega, by omega, rfl, ExtB.trans (ExtB.trans (ExtB.trans x1 x2) x3) x4, hp4⟩
    clear x1 hp1 H1
    rintro σ' H1 ⟨so, ki, sl, so0, so1, ki0, ki1, sl0, sl1, rfl, x1, hp1⟩
    -- classes
    have hki : ((ki.toNat : Nat) : Int) = ki := Int.toNat_of_nonneg (by omega)
    refine ⟨fun σ' H' => ∃ cp, ∃ cs : List Int, σ' = [some (.ref p), some (.int 5), some (.int wd), some (.int so), some (.int ki), some (.int sl), some (.ref cp), none, none, none, none, none] ∧ ExtB p H H' ∧ PoolAt H' p ∧ H' cp = some (.tup (cs.map V.int)) ∧ cs.length = ki.toNat ∧ ∀ i ∈ cs, 1 ≤ i ∧ i ≤ 8, ?_, ?_⟩
    · refine ⟨_, rfl, ki, rfl, by omega, by omega, fun D nD => ?_⟩
      have nDp := hp1.ne nD
      have nDH : H D = none := ExtB.free x1 (by obtain ⟨a, b, e⟩ := hp1; exact ⟨_, e⟩) nD
      refine lc_it (n := ki.toNat) walk_range (fun i H' => ∃ cs : List Int, ExtB p H H' ∧ PoolAt H' p ∧ H' D = some (.lst (cs.map V.int)) ∧ cs.length = i ∧ ∀ j ∈ cs, 1 ≤ j ∧ j ≤ 8) ⟨[], ExtB.new x1 nD, hp1.ext (Ext.new Ext.rfl' nD), upd_same, rfl, fun j h => nomatch h⟩ (fun _ _ _ _ => trivial) ?_ ?_
      · rintro i x H2 H' hi ⟨cs, x2, hp2, hD, hl, hc⟩ ⟨rfl, rfl⟩
        refine ⟨rfl, _, rfl, _, rfl, _, _, rfl, rfl, .inl (by decide), _, _, rfl, rfl, p, _, rfl, hp2, by omega, by omega, fun H3 d x3 hp3 d0 d1 => ⟨_, _, rfl, rfl, cs.map V.int, x3 _ _ nDp hD, by rw [List.length_map]; omega, cs ++ [1 + d], ExtB.putN (ExtB.trans x2 x3) nDH, ?_, ?_, by rw [List.length_append, hl]; rfl, fun j hj => ?_⟩⟩
        · obtain ⟨a, b, e⟩ := hp3
          exact ⟨a, b, (upd_ne nDp.symm).trans e⟩
        · rw [List.map_append]
          exact upd_same
        · rcases List.mem_append.mp hj with z | z
          · exact hc j z
          · rw [List.mem_singleton.mp z]
            omega
      · rintro H2 ⟨cs, x2, hp2, hD, hl, hc⟩
        exact ⟨D, _, rfl, .inl ⟨SqL.of hD, fun q nq => ⟨q, cs, rfl, ExtB.new x2 nq, hp2.ext (Ext.new Ext.rfl' nq), upd_same, hl, hc⟩⟩⟩
    clear x1 hp1 H1
    rintro σ' H1 ⟨cp, cs, rfl, x1, hp1, hcp, hcl, hci⟩
    -- threads
    refine ⟨fun σ' H' => ∃ fl, σ' = [some (.ref p), some (.int 5), some (.int wd), some (.int so), some (.int ki), some (.int sl), some (.ref cp), some (.ref fl), none, none, none, none] ∧ ExtB p H H' ∧ PoolAt H' p ∧ H' cp = some (.tup (cs.map V.int)) ∧ H' fl = some (.lst []) ∧ H fl = none ∧ fl ≠ p, ?_, ?_⟩
    · refine ⟨by show 0 ≤ sizeLine; omega, fun fl nfl => ?_⟩
      have y := Ext.new (o := .lst []) Ext.rfl' nfl
      exact ⟨fl, rfl, ExtB.new x1 nfl, hp1.ext y, y _ _ hcp, upd_same, ExtB.free x1 (by obtain ⟨a, b, e⟩ := hp1; exact ⟨_, e⟩) nfl, hp1.ne nfl⟩
    clear x1 hp1 hcp H1
    rintro σ' H1 ⟨fl, rfl, x1, hp1, hcp, hfl, nfl, nfp⟩
    refine ⟨fun σ' H' => ∃ w8 vs, ∃ ths : List Thr, σ' = [some (.ref p), some (.int 5), some (.int wd), some (.int so), some (.int ki), some (.int sl), some (.ref cp), some (.ref fl), w8, none, none, none] ∧ ExtB p H H' ∧ PoolAt H' p ∧ H' cp = some (.tup (cs.map V.int)) ∧ H' fl = some (.lst vs) ∧ TpL H' vs (ths.map thrD) ∧ 1 ≤ ths.length ∧ ths.length ≤ 4 ∧ ∀ t ∈ ths, 0 ≤ t.1 ∧ t.1 < so ∧ t.2.length ≤ 5 ∧ ∀ o ∈ t.2, GenOp ki sl o, ?_, ?_⟩
    · refine ⟨_, rfl, _, rfl, _, _, rfl, rfl, p, _, rfl, hp1, by omega, by omega, fun H2 d x2 hp2 d0 d1 => ⟨_, _, rfl, rfl, _, rfl, by omega, by omega, ?_⟩⟩
      have hd : (((1 + d).toNat : Nat) : Int) = 1 + d := Int.toNat_of_nonneg (by omega)
      have hcp2 := hp1.tk x2 _ _ hcp
      have hfl2 := x2 _ _ nfp hfl
      refine for_range (lo := 0) (n := (1 + d).toNat) (fun i σ' H' => ∃ w8 vs, ∃ ths : List Thr, σ' = [some (.ref p), some (.int 5), some (.int wd), some (.int so), some (.int ki), some (.int sl), some (.ref cp), some (.ref fl), w8, none, none, none] ∧ ExtB p H H' ∧ PoolAt H' p ∧ H' cp = some (.tup (cs.map V.int)) ∧ H' fl = some (.lst vs) ∧ TpL H' vs (ths.map thrD) ∧ ths.length = i ∧ ∀ t ∈ ths, 0 ≤ t.1 ∧ t.1 < so ∧ t.2.length ≤ 5 ∧ ∀ o ∈ t.2, GenOp ki sl o)
        ⟨none, [], [], rfl, ExtB.trans x1 x2, hp2, hcp2, hfl2, .nil, rfl, fun t h => nomatch h⟩ ?_ ?_
      rotate_left
      · rintro σ' H3 ⟨w8, vs, ths, rfl, a, b, c, e, g, hl, hg⟩
        exact ⟨w8, vs, ths, rfl, a, b, c, e, g, by omega, by omega, hg⟩
      rintro i σ' H3 hi ⟨w8, vs, ths, rfl, x3, hp3, hcp3, hfl3, ht3, hl3, hg3⟩
      have hlv : vs.length = i := by rw [ht3.length, List.length_map, hl3]
      refine ⟨_, rfl, .inl ⟨rfl, _, SqL.of hfl3⟩, _, rfl, _, rfl, p, so, rfl, hp3, by omega, by omega, fun H4 sk x4 hp4 k0 k1 => ?_⟩
      refine ⟨_, rfl, _, rfl, _, rfl, _, rfl, p, ki, sl, rfl, hp4, ki0, ki1, sl0, sl1, fun H5 q ws ops x5 hp5 hq hws hol hog nq => ?_⟩
      refine ⟨by show 2 ≤ sizeLine; omega, fun tq ntq => ?_⟩
      have y := Ext.new (o := .tup [V.int sk, .ref q]) Ext.rfl' ntq
      have x6 : ExtB p H3 (upd H5 tq (.tup [V.int sk, .ref q])) := ExtB.new (ExtB.trans x4 x5) ntq
      have e6 : (upd H5 tq (.tup [V.int sk, .ref q])) tq = some (.tup [V.int sk, .ref q]) := upd_same
      have hp6 := hp5.ext y
      have hq6 := y _ _ hq
      have hw6 := TpL.mono (TK.of y) _ _ hws
      generalize upd H5 tq (.tup [V.int sk, .ref q]) = H6 at x6 e6 hp6 hq6 hw6 ⊢
      have hfl6 := x6 _ _ nfp hfl3
      have k6 := hp3.tk x6
      have kk : TK H6 (upd H6 fl (.lst (vs ++ [.ref tq]))) := TK.put fun xs z => by
        rw [hfl6] at z
        cases z
      refine ⟨fl, vs, _, rfl, rfl, hfl6, by omega, _, vs ++ [.ref tq], ths ++ [(sk, ops)], rfl, ExtB.putN (ExtB.trans x3 x6) nfl, ?_, kk _ _ (k6 _ _ hcp3), upd_same, ?_, by rw [List.length_append, hl3]; rfl, fun t ht => ?_⟩
      · obtain ⟨a, b, e⟩ := hp6
        exact ⟨a, b, (upd_ne nfp.symm).trans e⟩
      · rw [List.map_append]
        exact TpL.app (TpL.mono (TK.trans k6 kk) _ _ ht3) (.cons (.tup (kk _ _ e6) (.cons (.int _) (.cons (.tup (kk _ _ hq6) (TpL.mono kk _ _ hw6)) .nil))) .nil)
      · rcases List.mem_append.mp ht with z | z
        · exact hg3 t z
        · rw [List.mem_singleton.mp z]
          exact ⟨k0, k1, hol, hog⟩
    clear x1 hp1 hcp hfl H1
    rintro σ' H1 ⟨w8, vs, ths, rfl, x1, hp1, hcp, hfl, ht, htl0, htl1, htg⟩
    -- batch
    refine ⟨fun σ' H' => ∃ ba : Int, 1 ≤ ba ∧ ba ≤ 8 ∧ σ' = [some (.ref p), some (.int 5), some (.int wd), some (.int so), some (.int ki), some (.int sl), some (.ref cp), some (.ref fl), w8, some (.int ba), none, none] ∧ ExtB p H H' ∧ PoolAt H' p ∧ H' cp = some (.tup (cs.map V.int)) ∧ H' fl = some (.lst vs) ∧ TpL H' vs (ths.map thrD), ?_, ?_⟩
    · refine ⟨_, rfl, _, rfl, _, _, rfl, rfl, .inl (by decide), _, _, rfl, rfl, p, _, rfl, hp1, by omega, by omega, fun H2 d x2 hp2 d0 d1 => ⟨_, _, rfl, rfl, _, by omega, by omega, rfl, ExtB.trans x1 x2, hp2, hp1.tk x2 _ _ hcp, x2 _ _ nfp hfl, TpL.mono (hp1.tk x2) _ _ ht⟩⟩
    clear x1 hp1 hcp hfl ht H1
    rintro σ' H1 ⟨ba, ba0, ba1, rfl, x1, hp1, hcp, hfl, ht⟩
    -- rest
    refine ⟨fun σ' H' => ∃ rp, ∃ pa sa : Int, 1 ≤ pa ∧ pa ≤ 5 ∧ 0 ≤ sa ∧ sa ≤ 8 ∧ σ' = [some (.ref p), some (.int 5), some (.int wd), some (.int so), some (.int ki), some (.int sl), some (.ref cp), some (.ref fl), w8, some (.int ba), some (.ref rp), none] ∧ ExtB p H H' ∧ PoolAt H' p ∧ H' cp = some (.tup (cs.map V.int)) ∧ H' fl = some (.lst vs) ∧ TpL H' vs (ths.map thrD) ∧ H' rp = some (.tup [.int pa, .int ba, .int sa]), ?_, ?_⟩
    · refine ⟨_, rfl, p, _, rfl, hp1, by omega, by omega, fun H2 d x2 hp2 d0 d1 => ⟨_, _, rfl, rfl, ?_⟩⟩
      refine ⟨_, rfl, _, rfl, _, rfl, _, _, rfl, rfl, .inl (by decide), _, _, rfl, rfl, p, _, rfl, hp2, by omega, by omega, fun H3 e x3 hp3 e0 e1 => ?_⟩
      have x13 := ExtB.trans x2 x3
      have k13 := hp1.tk x13
      refine ⟨by show 3 ≤ sizeLine; omega, fun rp nrp => ?_⟩
      have y := Ext.new (o := .tup [V.int (1 + d), .int ba, .int e]) Ext.rfl' nrp
      exact ⟨rp, 1 + d, e, by omega, by omega, by omega, by omega, rfl, ExtB.new (ExtB.trans x1 x13) nrp, hp3.ext y, y _ _ (k13 _ _ hcp), y _ _ (x13 _ _ nfp hfl), TpL.mono (TK.trans k13 (TK.of y)) _ _ ht, upd_same⟩
    clear x1 hp1 hcp hfl ht H1
    rintro σ' H1 ⟨rp, pa, sa, pa0, pa1, sa0, sa1, rfl, x1, hp1, hcp, hfl, ht, hrp⟩
    -- the whole
    refine ⟨_, rfl, _, rfl, _, rfl, fl, vs, rfl, .inl ⟨SqL.of hfl, fun tp ntp => ?_⟩⟩
    have y1 : Ext H1 (upd H1 tp (.tup vs)) := Ext.new Ext.rfl' ntp
    have x2 : ExtB p H (upd H1 tp (.tup vs)) := ExtB.new x1 ntp
    have e1 : (upd H1 tp (.tup vs)) tp = some (.tup vs) := upd_same
    generalize upd H1 tp (.tup vs) = H2 at y1 x2 e1 ⊢
    refine ⟨by show 3 ≤ sizeLine; omega, fun a na => ?_⟩
    have y2 : Ext H1 (upd H2 a (.tup [V.int so, .ref cp, .ref tp])) := Ext.new y1 na
    have z2 : Ext H2 (upd H2 a (.tup [V.int so, .ref cp, .ref tp])) := Ext.new Ext.rfl' na
    have x3 : ExtB p H (upd H2 a (.tup [V.int so, .ref cp, .ref tp])) := ExtB.new x2 na
    have e2 : (upd H2 a (.tup [V.int so, .ref cp, .ref tp])) a = some (.tup [V.int so, .ref cp, .ref tp]) := upd_same
    generalize upd H2 a (.tup [V.int so, .ref cp, .ref tp]) = H3 at y2 z2 x3 e2 ⊢
    refine ⟨_, rfl, a, rp, _, _, rfl, rfl, SqT.of e2, SqT.of (y2 _ _ hrp), by show 6 ≤ sizeLine; omega, (fun z => nomatch z), (fun _ z => nomatch z), fun _ _ b nb => ?_⟩
    have y3 := Ext.new (o := .tup ([V.int so, .ref cp, .ref tp] ++ [.int pa, .int ba, .int sa])) y2 nb
    have z3 := Ext.new (o := .tup ([V.int so, .ref cp, .ref tp] ++ [.int pa, .int ba, .int sa])) z2 nb
    have x4 := ExtB.new (o := .tup ([V.int so, .ref cp, .ref tp] ++ [.int pa, .int ba, .int sa])) x3 nb
    have e3 : (upd H3 b (.tup ([V.int so, .ref cp, .ref tp] ++ [.int pa, .int ba, .int sa]))) b = some (.tup ([V.int so, .ref cp, .ref tp] ++ [.int pa, .int ba, .int sa])) := upd_same
    generalize upd H3 b (.tup ([V.int so, .ref cp, .ref tp] ++ [.int pa, .int ba, .int sa])) = H4 at y3 z3 x4 e3 ⊢
    have hp4 := hp1.ext y3
    refine ⟨_, rfl, _, rfl, _, rfl, _, _, rfl, rfl, .inl (by decide), _, _, rfl, rfl, p, _, rfl, hp4, by omega, by omega, fun H5 d x5 hp5 d0 d1 => ?_⟩
    have k5 := hp4.tk x5
    refine ⟨by show 2 ≤ sizeLine; omega, fun c nc => ?_⟩
    have z6 := Ext.new (o := .tup [V.int sl, .int d]) Ext.rfl' nc
    have x6 := ExtB.new (o := .tup [V.int sl, .int d]) (ExtB.trans x4 x5) nc
    have e6 : (upd H5 c (.tup [V.int sl, .int d])) c = some (.tup [V.int sl, .int d]) := upd_same
    have hp6 := hp5.ext z6
    generalize upd H5 c (.tup [V.int sl, .int d]) = H6 at z6 x6 e6 hp6 ⊢
    have k36 := TK.trans k5 (TK.of z6)
    refine ⟨b, c, _, _, rfl, rfl, SqT.of (k36 _ _ e3), SqT.of e6, by show 8 ≤ sizeLine; omega, (fun z => nomatch z), (fun _ z => nomatch z), fun _ _ q nq => ?_⟩
    have z7 := Ext.new (o := .tup (([V.int so, .ref cp, .ref tp] ++ [.int pa, .int ba, .int sa]) ++ [.int sl, .int d])) Ext.rfl' nq
    have k17 : TK H1 (upd H6 q (.tup (([V.int so, .ref cp, .ref tp] ++ [.int pa, .int ba, .int sa]) ++ [.int sl, .int d]))) := TK.trans (TK.of y3) (TK.trans k36 (TK.of z7))
    refine k _ q { sockets := so, classes := cs, threads := ths, pages := pa, batch := ba, spare := sa, slots := sl, stops := d, fault := none } (ExtB.new x6 nq) (hp6.ext z7) ⟨cp, tp, vs, upd_same, k17 _ _ hcp, TK.trans (TK.of z3) (TK.trans k36 (TK.of z7)) _ _ e1, TpL.mono k17 _ _ ht⟩ ?_
    have hcs : (cs.length : Int) = ki := by rw [hcl]; exact hki
    exact ⟨⟨so0, so1⟩, ⟨by show 1 ≤ cs.length; omega, by show cs.length ≤ 3; omega⟩, hci, ⟨htl0, htl1⟩, by rw [hcs]; exact htg, ⟨pa0, pa1⟩, ⟨ba0, ba1⟩, ⟨sa0, sa1⟩, ⟨sl0, sl1⟩, ⟨d0, by show d ≤ 4; omega⟩⟩
end
end Hf
end
section
set_option maxHeartbeats 4000000
/-! D16: the law's text of a drawn machine. -/
namespace Hf
open PySem PySem.Spec PyProof.Rows L2
theorem pl {a : Str} {i : Int} (ha : a.length ≤ 9) (h : SmI i) : a.length + (numS i).length ≤ sizeLine := by
  have e := sizeLine_eq
  have := h.len
  omega
theorem SmI.sv {i : Int} (h : SmI i) : SV (.int i) (numS i) := .inr ⟨i, rfl, h.log, rfl⟩
def spLText : Sp := fun vs H Q _ => ∃ q z, vs = [.ref q, optV z.fault] ∧ MAt H q z ∧ Small z ∧ ∀ H' l, Ext H H' → H' l = some (.lst ((rowsOf z).map V.str)) → H l = none → Q (.ref l) H'
section
variable {P : Program} {w : World} {K : Fg} {mg : Str → Option Value} {base : Heap}
theorem scLText : FnScope ["_law_m", "_law_kind", "_law_rows", "_law_socket", "_law_program_here", "_law_row", "_law_one", "_law_part"] ["_law_m", "_law_kind"] (defScope sLText) := ⟨rfl, rfl, rfl, by decide +kernel, rfl, by decide +kernel, by decide +kernel⟩
theorem c_lText (T : Txt K mg w) : Cal0 P w K mg base 3 "_law_text" spLText := by
  refine cal_of (i := 36) T rfl (by decide +kernel) scLText (fun _ _ _ _ _ _ us hl => match us, hl with | [_, _], _ => rfl) (fun vs H Q E h => ?_) (fun f cdv A outer s H vs Q E hr h => ?_)
  · obtain ⟨q, z, rfl, _⟩ := h
    rfl
  · obtain ⟨m, z, rfl, ⟨cp, tp, ths, hS, hC, hT, hts⟩, sm, k⟩ := h
    refine ⟨_, (C8.pss_cut (ps_set (i := 2) scLText.nd (by rfl) (by first | exact Or.inl rfl | exact Or.inr rfl) (pe_lst (pa_cons (pe_op op_add_str pe_str (pe_callTy call_strA (by rfl) (fr T "str") boot_str (pa_cons (pe_ix ix_tup (pv 0) pe_int (fun _ _ => rfl)) pa_nil))) (pa_cons (pe_join pe_str (pe_op op_cat (pe_lst (pa_cons pe_str pa_nil)) (pe_lc (own := [("_law_one", 6)]) (g := (gName 6))  (by rfl) scLText.nd (pi_tup (pe_ix ix_tup (pv 0) pe_int (fun _ _ => rfl))) (blkOk_by (N := ["_law_m", "_law_kind", "_law_rows", "_law_socket", "_law_program_here", "_law_row", "_law_one", "_law_part"]) (sc := defScope sLText) (by decide +kernel)) (fun _ _ _ _ _ => by exact (pg_name (i := 6) scLText.nd (by rfl) (Or.inl (by rfl)))) (fun _ _ _ _ _ => by exact pts_nil) (fun _ _ _ _ _ => by exact (pe_callTy call_strA (by rfl) (fr T "str") boot_str (pa_cons (pv 6) pa_nil)))))) (pa_cons (pe_op op_add_str pe_str (pe_callTy call_strA (by rfl) (fr T "str") boot_str (pa_cons (pe_ix ix_tup (pv 0) pe_int (fun _ _ => rfl)) pa_nil))) pa_nil)))))
      (C8.pss_cut (ps_set (i := 2) scLText.nd (by rfl) (by first | exact Or.inl rfl | exact Or.inr rfl) (pe_op op_cat (pv 2) (pe_lst (pa_cons (pe_op op_add_str pe_str (pe_callTy call_strA (by rfl) (fr T "str") boot_str (pa_cons (pe_ix ix_tup (pv 0) pe_int (fun _ _ => rfl)) pa_nil))) (pa_cons (pe_op op_add_str pe_str (pe_callTy call_strA (by rfl) (fr T "str") boot_str (pa_cons (pe_ix ix_tup (pv 0) pe_int (fun _ _ => rfl)) pa_nil))) (pa_cons (pe_op op_add_str pe_str (pe_callTy call_strA (by rfl) (fr T "str") boot_str (pa_cons (pe_ix ix_tup (pv 0) pe_int (fun _ _ => rfl)) pa_nil))) (pa_cons (pe_op op_add_str pe_str (pe_callTy call_strA (by rfl) (fr T "str") boot_str (pa_cons (pe_ix ix_tup (pv 0) pe_int (fun _ _ => rfl)) pa_nil))) pa_nil)))))))
      (C8.pss_cut (ps_set (i := 2) scLText.nd (by rfl) (by first | exact Or.inl rfl | exact Or.inr rfl) (pe_op op_cat (pv 2) (pe_ifExp (pt_cmp (pc_notN (pv 1))) (pe_lst (pa_cons (pe_op op_add_str pe_str (pv 1)) pa_nil)) (pe_lst pa_nil))))
      (C8.pss_cut (ps_for PassesOwn.never (by rfl) (pi_tup (pe_ix ix_tup (pv 0) pe_int (fun _ _ => rfl))) (pg_tup (by rfl) (pgs_cons (pg_name (i := 3) scLText.nd (by rfl) (Or.inl (by rfl))) (pgs_cons (pg_name (i := 4) scLText.nd (by rfl) (Or.inl (by rfl))) pgs_nil))) (pss_cons (ps_expr (pe_bm PySem.F.plainAttrs_list PySem.F.slot_list_append PySem.F.type_list_append mt_append (pv 2) (pa_cons (pe_op op_add_str pe_str (pe_callTy call_strA (by rfl) (fr T "str") boot_str (pa_cons (pv 3) pa_nil))) pa_nil)))
      (pss_one (ps_for PassesOwn.never (by rfl) (pi_tup (pv 4)) (pg_name (i := 5) scLText.nd (by rfl) (Or.inl (by rfl))) (pss_one (ps_expr (pe_bm PySem.F.plainAttrs_list PySem.F.slot_list_append PySem.F.type_list_append mt_append (pv 2) (pa_cons (pe_join pe_str (pe_lc (own := [("_law_part", 7)]) (g := (gName 7))  (by rfl) scLText.nd (pi_tup (pv 5)) (blkOk_by (N := ["_law_m", "_law_kind", "_law_rows", "_law_socket", "_law_program_here", "_law_row", "_law_one", "_law_part"]) (sc := defScope sLText) (by decide +kernel)) (fun _ _ _ _ _ => by exact (pg_name (i := 7) scLText.nd (by rfl) (Or.inl (by rfl)))) (fun _ _ _ _ _ => by exact pts_nil) (fun _ _ _ _ _ => by exact (pe_callTy call_strA (by rfl) (fr T "str") boot_str (pa_cons (pv 7) pa_nil))))) pa_nil))))))))
      (pss_one (ps_ret (pv 2))))))), ?_⟩
    have en := sizeLine_eq
    have scn := sm.cn
    -- rows = [..]
    refine ⟨fun σ' H' => ∃ l, H l = none ∧ Ext H H' ∧ σ' = [some (.ref m), some (optV z.fault), some (.ref l), none, none, none, none, none] ∧ H' l = some (.lst (((headRows z).take 3).map V.str)), ?_, ?_⟩
    · refine ⟨_, rfl, m, _, 0, _, rfl, rfl, SqT.of hS, atI_nat (j := 0) rfl, _, _, rfl, sm.so.sv, _, _, rfl, rfl, pl (by decide +kernel) sm.so, ?_⟩
      refine ⟨⟨_, rfl⟩, by show 1 ≤ sizeLine; omega, fun p0 np0 => ?_⟩
      have x0 : Ext H (upd H p0 (.lst [.str "classes"])) := Ext.new Ext.rfl' np0
      have e0 : (upd H p0 (.lst [.str "classes"])) p0 = some (.lst [.str "classes"]) := upd_same
      generalize upd H p0 (.lst [.str "classes"]) = H0 at x0 e0 ⊢
      refine ⟨_, rfl, m, _, 1, _, rfl, rfl, SqT.of (x0 _ _ hS), atI_nat (j := 1) rfl, cp, rfl, ⟨_, SqT.of (x0 _ _ hC)⟩, fun D hD => ?_⟩
      refine lc_ext (walk_tup (K := K) (a := cp) (xs := z.classes.map V.int)) (fun j _ y => ∃ o, z.classes[j]? = some o ∧ y = .str (numS o)) (fun _ _ _ _ _ h => h) hD (by rw [List.length_map]; omega) (fun H' x => SqT.of (x _ _ (x0 _ _ hC))) ?_ ?_
      · rintro j y H7 H8 C hj x7 ⟨rfl, ey⟩ hC
        rw [List.getElem?_map] at ey
        obtain ⟨o, eo, rfl⟩ := Option.map_eq_some_iff.mp ey
        exact ⟨rfl, _, rfl, _, _, rfl, (sm.ci o (List.mem_of_getElem? eo)).sv, hC _ _ Ext.rfl' ⟨o, eo, rfl⟩⟩
      · intro H1 ys x1 hD1 hl1 hr1
        have ez : ys = z.classes.map fun o => V.str (numS o) := list_map (by rw [hl1, List.length_map]) fun i y e => hr1 i y e
        subst ez
        refine ⟨p0, D, _, _, rfl, rfl, x1 _ _ e0, hD1, by rw [List.length_map]; show 1 + _ ≤ _; omega, fun p np => ?_⟩
        have x2 := Ext.trans x0 x1
        have x3 : Ext H (upd H1 p (.lst ([V.str "classes"] ++ z.classes.map fun o => V.str (numS o)))) := Ext.new x2 np
        refine ⟨_, p, "classes" :: z.classes.map numS, rfl, rfl, .inl (SqL.of (upd_same.trans ?_)), ?_, ?_⟩
        · rw [List.map_cons, List.map_map]
          rfl
        · have y := sum7 (x := "classes") (by decide +kernel) sm.cn sm.ci
          have e1 : (" " : Str).length = 1 := by decide +kernel
          rw [e1]
          omega
        · refine ⟨_, rfl, m, _, 3, _, rfl, rfl, SqT.of (x3 _ _ hS), atI_nat (j := 3) rfl, _, _, rfl, sm.pa.sv, _, _, rfl, rfl, pl (by decide +kernel) sm.pa, by show 3 ≤ sizeLine; omega, fun l nl => ?_⟩
          exact ⟨l, Ext.free x3 nl, Ext.new x3 nl, rfl, upd_same⟩
    rintro σ' H1 ⟨l, nl, x1, rfl, hl⟩
    -- rows = rows + [..]
    refine ⟨fun σ' H' => ∃ l, H l = none ∧ Ext H H' ∧ σ' = [some (.ref m), some (optV z.fault), some (.ref l), none, none, none, none, none] ∧ H' l = some (.lst ((headRows z).map V.str)), ?_, ?_⟩
    · have q := SqT.of (K := K) (x1 _ _ hS)
      refine ⟨_, rfl, _, rfl, m, _, 4, _, rfl, rfl, q, atI_nat (j := 4) rfl, _, _, rfl, sm.ba.sv, _, _, rfl, rfl, pl (by decide +kernel) sm.ba, ?_⟩
      refine ⟨_, rfl, m, _, 5, _, rfl, rfl, q, atI_nat (j := 5) rfl, _, _, rfl, sm.sa.sv, _, _, rfl, rfl, pl (by decide +kernel) sm.sa, ?_⟩
      refine ⟨_, rfl, m, _, 6, _, rfl, rfl, q, atI_nat (j := 6) rfl, _, _, rfl, sm.sl.sv, _, _, rfl, rfl, pl (by decide +kernel) sm.sl, ?_⟩
      refine ⟨_, rfl, m, _, 7, _, rfl, rfl, q, atI_nat (j := 7) rfl, _, _, rfl, sm.st.sv, _, _, rfl, rfl, pl (by decide +kernel) sm.st, by show 4 ≤ sizeLine; omega, fun p np => ?_⟩
      refine ⟨l, p, _, _, rfl, rfl, (upd_ne (ne_of_none hl np)).trans hl, upd_same, by show 3 + 4 ≤ sizeLine; omega, fun l2 nl2 => ?_⟩
      exact ⟨l2, Ext.free (Ext.new x1 np) nl2, Ext.new (Ext.new x1 np) nl2, rfl, upd_same⟩
    clear x1 hl nl l H1
    rintro σ' H1 ⟨l, nl, x1, rfl, hl⟩
    -- the fault
    refine ⟨fun σ' H' => ∃ l, H l = none ∧ Ext H H' ∧ σ' = [some (.ref m), some (optV z.fault), some (.ref l), none, none, none, none, none] ∧ H' l = some (.lst ((headRows z ++ faultRow z).map V.str)), ?_, ?_⟩
    · refine ⟨_, rfl, _, rfl, _, rfl, ?_⟩
      rcases sm.fa with e | ⟨y, e, hy⟩
      · refine itF (by rw [e]; decide) ⟨by show 0 ≤ sizeLine; omega, fun p np => ?_⟩
        refine ⟨l, p, _, _, rfl, rfl, (upd_ne (ne_of_none hl np)).trans hl, upd_same, by show 7 + 0 ≤ sizeLine; omega, fun l2 nl2 => ?_⟩
        have e2 : faultRow z = [] := by
          unfold faultRow
          rw [e]
        refine ⟨l2, Ext.free (Ext.new x1 np) nl2, Ext.new (Ext.new x1 np) nl2, rfl, ?_⟩
        rw [e2, List.append_nil]
        exact upd_same.trans (by rw [List.append_nil])
      · have ly := faults_len hy
        have e2 : faultRow z = ["fault " ++ y] := by
          unfold faultRow
          rw [e]
        have lf : ("fault " : Str).length = 6 := by decide +kernel
        refine itT (by rw [e]; exact rfl) ⟨_, rfl, _, y, rfl, by rw [e] <;> rfl, by omega, by show 1 ≤ sizeLine; omega, fun p np => ?_⟩
        refine ⟨l, p, _, _, rfl, rfl, (upd_ne (ne_of_none hl np)).trans hl, upd_same, by show 7 + 1 ≤ sizeLine; omega, fun l2 nl2 => ?_⟩
        refine ⟨l2, Ext.free (Ext.new x1 np) nl2, Ext.new (Ext.new x1 np) nl2, rfl, ?_⟩
        rw [e2, List.map_append]
        exact upd_same
    clear x1 hl nl l H1
    rintro σ' H4 ⟨l, nl, x4, rfl, hl4⟩
    have lth : ths.length = z.threads.length := by rw [hts.length, List.length_map]
    have nrows := rowsOf_num sm
    have lall := rowsOf_len sm
    have small : ∀ j, (headRows z ++ faultRow z ++ (z.threads.take j).flatMap thRows).length ≤ 40 := fun j => by
      have a := flat_len (f := thRows) (k := 6) (l := z.threads.take j) fun t ht => thRows_num (sm.ti t (List.mem_of_mem_take ht))
      have b := faultRow_num z
      have c : (headRows z).length = 7 := rfl
      have e1 : (z.threads.take j).length ≤ 4 := Nat.le_trans (List.length_take_le' _ _) sm.tn
      rw [List.length_append, List.length_append]
      omega
    -- the threads
    refine ⟨fun σ' H' => Ext H H' ∧ (∃ w1 w2 w3, σ' = [some (.ref m), some (optV z.fault), some (.ref l), w1, w2, w3, none, none]) ∧ H' l = some (.lst ((rowsOf z).map V.str)), ?_, ?_⟩
    · refine ⟨_, rfl, m, _, 2, _, rfl, rfl, SqT.of (x4 _ _ hS), atI_nat (j := 2) rfl, tp, rfl, ⟨_, SqT.of (x4 _ _ hT)⟩, ?_⟩
      refine for_tup (K := K) (a := tp) (xs := ths) (fun i σ' H' => Ext H H' ∧ (∃ w1 w2 w3, σ' = [some (.ref m), some (optV z.fault), some (.ref l), w1, w2, w3, none, none]) ∧ H' l = some (.lst ((headRows z ++ faultRow z ++ (z.threads.take i).flatMap thRows).map V.str)))
        ⟨x4, ⟨_, _, _, rfl⟩, by rw [List.take_zero, List.flatMap_nil, List.append_nil]; exact hl4⟩ (fun i σ' H' _ h => SqT.of (h.1 _ _ hT)) ?_ ?_
      · rintro i v σ' H' hi ⟨x5, ⟨w1, w2, w3, rfl⟩, hl5⟩
        obtain ⟨d, ed, hd⟩ := hts.get hi
        rw [List.getElem?_map] at ed
        obtain ⟨t, et, rfl⟩ := Option.map_eq_some_iff.mp ed
        obtain ⟨p, q, vs, rfl, h1, h2, h3⟩ := hd.thr
        have ht := sm.ti t (List.mem_of_getElem? et)
        have etake : (z.threads.take (i + 1)).flatMap thRows = (z.threads.take i).flatMap thRows ++ thRows t := by
          rw [List.take_succ, et, List.flatMap_append]
          show _ ++ (thRows t ++ []) = _
          rw [List.append_nil]
        refine ⟨p, _, rfl, SqT.of (x5 _ _ h1), rfl, _, _, rfl, _, _, rfl, rfl, ?_⟩
        have lt : ("thread " : Str).length = 7 := by decide +kernel
        have b5 := small i
        refine ⟨_, rfl, .inl ⟨rfl, _, SqL.of hl5⟩, _, rfl, _, _, rfl, ht.s.sv, _, _, rfl, rfl, pl (by omega) ht.s, l, _, _, rfl, rfl, hl5, by rw [List.length_map]; omega, ?_⟩
        have x6 := Ext.putN (o := .lst ((headRows z ++ faultRow z ++ (z.threads.take i).flatMap thRows).map V.str ++ [.str ("thread " ++ numS t.1)])) x5 nl
        have e6 : (upd H' l (.lst ((headRows z ++ faultRow z ++ (z.threads.take i).flatMap thRows).map V.str ++ [.str ("thread " ++ numS t.1)]))) l = some (.lst ((headRows z ++ faultRow z ++ (z.threads.take i).flatMap thRows ++ ("thread " ++ numS t.1) :: (t.2.take 0).map opRow).map V.str)) :=
          upd_same.trans (congrArg (fun z => some (HO.lst z)) (by rw [List.map_append (l₂ := _ :: _)] <;> rfl))
        generalize upd H' l (.lst ((headRows z ++ faultRow z ++ (z.threads.take i).flatMap thRows).map V.str ++ [.str ("thread " ++ numS t.1)])) = H6 at x6 e6 ⊢
        have lvs : vs.length = t.2.length := by rw [h3.length, List.length_map]
        have htn := ht.n
        refine ⟨_, rfl, q, rfl, ⟨_, SqT.of (x6 _ _ h2)⟩, ?_⟩
        refine for_tup (K := K) (a := q) (xs := vs) (fun j σ' H' => Ext H H' ∧ (∃ w3, σ' = [some (.ref m), some (optV z.fault), some (.ref l), some (.int t.1), some (.ref q), w3, none, none]) ∧ H' l = some (.lst ((headRows z ++ faultRow z ++ (z.threads.take i).flatMap thRows ++ ("thread " ++ numS t.1) :: (t.2.take j).map opRow).map V.str)))
          ⟨x6, ⟨_, rfl⟩, e6⟩ (fun i σ' H' _ h => SqT.of (h.1 _ _ h2)) ?_ ?_
        · rintro j v σ' H7 hj ⟨x7, ⟨w3, rfl⟩, hl7⟩
          obtain ⟨d, ed, hd⟩ := h3.get hj
          rw [List.getElem?_map] at ed
          obtain ⟨o, eo, rfl⟩ := Option.map_eq_some_iff.mp ed
          have so := ht.o o (List.mem_of_getElem? eo)
          obtain ⟨r, rfl, hr0⟩ := hd.op
          have so2 := so.n
          have etake2 : (t.2.take (j + 1)).map opRow = (t.2.take j).map opRow ++ [opRow o] := by
            rw [List.take_succ, eo, List.map_append]
            rfl
          refine ⟨_, rfl, .inl ⟨rfl, _, SqL.of hl7⟩, ⟨_, rfl⟩, _, rfl, r, rfl, ⟨_, SqT.of (x7 _ _ hr0)⟩, fun D hD => ?_⟩
          refine lc_ext (walk_tup (K := K) (a := r) (xs := V.str o.1 :: o.2.map V.int)) (fun j _ y => ∃ x, (o.1 :: o.2.map numS)[j]? = some x ∧ y = .str x) (fun _ _ _ _ _ h => h) hD (by rw [List.length_cons, List.length_map]; omega) (fun H' x => SqT.of (x _ _ (x7 _ _ hr0))) ?_ ?_
          · rintro j y H8 H9 C hj x8 ⟨rfl, ey⟩ hC
            cases j with
            | zero =>
              cases ey
              exact ⟨rfl, _, rfl, _, _, rfl, .inl rfl, hC _ _ Ext.rfl' ⟨_, rfl, rfl⟩⟩
            | succ j =>
              rw [List.getElem?_cons_succ, List.getElem?_map] at ey
              obtain ⟨n, eo, rfl⟩ := Option.map_eq_some_iff.mp ey
              exact ⟨rfl, _, rfl, _, _, rfl, (so.i n (List.mem_of_getElem? eo)).sv, hC _ _ Ext.rfl' ⟨numS n, by rw [List.getElem?_cons_succ, List.getElem?_map, eo] <;> rfl, rfl⟩⟩
          · intro H8 ys x8 hD8 hl8 hr8
            have ez : ys = (o.1 :: o.2.map numS).map V.str := list_map (by rw [hl8, List.length_cons, List.length_cons, List.length_map, List.length_map]) fun i y e => hr8 i y e
            subst ez
            have nl8 := x8 _ _ hl7
            refine ⟨_, D, o.1 :: o.2.map numS, rfl, rfl, .inl (SqL.of hD8), ?_, l, _, _, rfl, rfl, nl8, ?_, Ext.putN (Ext.trans x7 x8) nl, ⟨_, rfl⟩, ?_⟩
            · have y := sum7 (x := o.1) (by have := so.w; omega) (by omega) so.i
              have e1 : (" " : Str).length = 1 := by decide +kernel
              rw [e1]
              omega
            · rw [List.length_map, List.length_append, List.length_cons, List.length_map]
              have := List.length_take_le j t.2
              have := List.length_take_le' j t.2
              omega
            · refine upd_same.trans (congrArg (fun z => some (HO.lst z)) ?_)
              rw [etake2]
              simp only [List.map_append, List.append_assoc, List.map_cons, List.map_nil, List.cons_append]
              rfl
        · rintro σ' H7 ⟨x7, ⟨w3, rfl⟩, hl7⟩
          refine ⟨x7, ⟨_, _, _, rfl⟩, ?_⟩
          rw [lvs, List.take_length] at hl7
          rw [etake]
          refine hl7.trans (congrArg (fun z : List Str => some (HO.lst (z.map V.str))) ?_)
          rw [List.append_assoc]
          rfl
      · rintro σ' H' ⟨x5, hs, hl5⟩
        refine ⟨x5, hs, ?_⟩
        rw [lth, List.take_length] at hl5
        exact hl5
    rintro σ' H5 ⟨x5, ⟨w1, w2, w3, rfl⟩, hl5⟩
    exact ⟨_, rfl, k _ l x5 hl5 nl⟩
end
end Hf
end
section
set_option maxHeartbeats 4000000
/-! Rw: rows that may be bent. -/
namespace Hf
open PySem PySem.Spec PyProof.Rows L2
abbrev cl (x : Str) : List Nat := x.cps.toList
/-- a row of at most n signs, no line's end within, not begun by an r -/
structure RowOk (n : Nat) (x : Str) : Prop where
  len : x.length ≤ n
  no : 10 ∉ cl x
  hd : (cl x).head? ≠ some 114
theorem RowOk.mono {n m : Nat} {x : Str} (h : RowOk n x) (k : n ≤ m) : RowOk m x := ⟨Nat.le_trans h.len k, h.no, h.hd⟩
theorem cl_app (a b : Str) : cl (a ++ b) = cl a ++ cl b := TL.tl_append a b
theorem cl_len (a : Str) : (cl a).length = a.length := Array.length_toList
theorem cl_ext {a b : Str} (h : cl a = cl b) : a = b := TL.ext_tl h
theorem cl_S (l : List Nat) : cl (SX.S l) = l := by
  have e := SX.S_len l
  show (SX.S l).cps.toList = l
  unfold SX.S
  simp
theorem RowOk.word {n : Nat} {x : Str} (h : RowOk n x) : wordOf x ≠ "repeat" := fun e => by
  have z := split_sp x
  rw [split_cons] at z
  obtain ⟨p, ps, ep⟩ := pieces_cons 32 (cl x)
  rw [ep, List.map_cons] at z
  injection z with z1 z2
  rw [e] at z1
  have e4 : cl ("repeat" : Str) = [114, 101, 112, 101, 97, 116] := by decide +kernel
  have z3 : [114, 101, 112, 101, 97, 116] = p := e4.symm.trans ((congrArg cl z1).trans (cl_S p))
  subst z3
  rcases pieces_first ep with ⟨_, w⟩ | ⟨q, w, _⟩
  · exact h.hd (by rw [w]; rfl)
  · exact h.hd (by rw [w]; rfl)
theorem split_join {rows : List Str} (hn : rows ≠ []) (h : ∀ x ∈ rows, 10 ∉ cl x) : Txt.split (Txt.join nl rows) nl = rows := by
  rw [split_nl]
  have e : (Txt.join nl rows).cps.toList = TL.joinL [10] (rows.map cl) := by
    rw [join_S']
    have e2 : nl.cps.toList = [10] := by decide +kernel
    rw [e2] <;> exact cl_S _
  rw [e, pieces_join (c := 10) (by simpa using hn) fun p hp => by
    obtain ⟨x, hx, rfl⟩ := List.mem_map.mp hp
    exact h x hx]
  rw [List.map_map]
  conv => rhs; rw [← List.map_id rows]
  exact List.map_congr_left fun x _ => cl_ext (cl_S _)
theorem join_small {n : Nat} {rows : List Str} (hl : rows.length ≤ 40) (h : ∀ x ∈ rows, RowOk n x) (hn : n ≤ 60) : (Txt.join nl rows).length ≤ 3000 := by
  have a := join_len nl rows
  have b := sum_le (l := rows) (k := 60) fun x hx => Nat.le_trans (h x hx).len hn
  have e : nl.length = 1 := by decide +kernel
  rw [e] at a
  have c : rows.length * 60 ≤ 40 * 60 := Nat.mul_le_mul_right _ hl
  omega
theorem join_fit {n : Nat} {rows : List Str} (hl : rows.length ≤ 40) (h : ∀ x ∈ rows, RowOk n x) (hn : n ≤ 60) : (rows.map (·.length)).sum + rows.length * nl.length ≤ 16777216 := by
  have b := sum_le (l := rows) (k := 60) fun x hx => Nat.le_trans (h x hx).len hn
  have e : nl.length = 1 := by decide +kernel
  rw [e]
  have c : rows.length * 60 ≤ 40 * 60 := Nat.mul_le_mul_right _ hl
  omega
theorem noRep {n : Nat} {rows : List Str} (hn : rows ≠ []) (h : ∀ x ∈ rows, RowOk n x) : NoRep (Txt.split (Txt.join nl rows) nl) := by
  rw [split_join hn fun x hx => (h x hx).no]
  exact fun x hx => (h x hx).word
/-! ### cuts -/
theorem cut_lo {xs : List V} {v : Int} (h : 0 ≤ v) : cutV xs none (some v) = xs.take v.toNat := by
  show (xs.drop 0).take ((if v < 0 then (v + (xs.length : Int)).toNat else min v.toNat xs.length) - 0) = _
  rw [if_neg (by omega), List.drop_zero, Nat.sub_zero]
  rcases Nat.le_total v.toNat xs.length with z | z
  · rw [Nat.min_eq_left z]
  · rw [Nat.min_eq_right z, List.take_length, List.take_of_length_le z]
theorem cut_hi {xs : List V} {v : Int} (h : 0 ≤ v) : cutV xs (some v) none = xs.drop v.toNat := by
  show (xs.drop (if v < 0 then (v + (xs.length : Int)).toNat else min v.toNat xs.length)).take (xs.length - (if v < 0 then (v + (xs.length : Int)).toNat else min v.toNat xs.length)) = _
  rw [if_neg (by omega)]
  rcases Nat.le_total v.toNat xs.length with z | z
  · rw [Nat.min_eq_left z, List.take_of_length_le (by rw [List.length_drop]; exact Nat.le_refl _)]
  · rw [Nat.min_eq_right z, Nat.sub_self, List.take_zero, List.drop_eq_nil_of_le z]
theorem cutS_lo {x : Str} {v : Int} (h : 0 ≤ v) : cl (cutS x none (some v)) = (cl x).take v.toNat := by
  show ((((cl x).drop 0).take ((if v < 0 then (v + (x.length : Int)).toNat else min v.toNat x.length) - 0)).toArray).toList = _
  rw [if_neg (by omega), List.drop_zero, Nat.sub_zero, List.toList_toArray, ← cl_len]
  rcases Nat.le_total v.toNat (cl x).length with z | z
  · rw [Nat.min_eq_left z]
  · rw [Nat.min_eq_right z, List.take_length, List.take_of_length_le z]
theorem cutS_hi {x : Str} {v : Int} (h : 0 ≤ v) : cl (cutS x (some v) none) = (cl x).drop v.toNat := by
  show ((((cl x).drop (if v < 0 then (v + (x.length : Int)).toNat else min v.toNat x.length)).take (x.length - (if v < 0 then (v + (x.length : Int)).toNat else min v.toNat x.length))).toArray).toList = _
  rw [if_neg (by omega), List.toList_toArray, ← cl_len]
  rcases Nat.le_total v.toNat (cl x).length with z | z
  · rw [Nat.min_eq_left z, List.take_of_length_le (by rw [List.length_drop]; exact Nat.le_refl _)]
  · rw [Nat.min_eq_right z, Nat.sub_self, List.take_zero, List.drop_eq_nil_of_le z]
theorem RowOk.take {n : Nat} {x : Str} {v : Int} (h : RowOk n x) (hv : 0 ≤ v) : RowOk n (cutS x none (some v)) := by
  have e := cutS_lo (x := x) hv
  refine ⟨?_, fun m => h.no (List.mem_of_mem_take (by rw [← e]; exact m)), fun m => h.hd ?_⟩
  · rw [← cl_len, e, List.length_take, cl_len]
    have := h.len
    omega
  · rw [e, List.head?_take] at m
    split at m
    · cases m
    · exact m
theorem RowOk.bend {n : Nat} {x s : Str} {v : Int} (h : RowOk n x) (hv : 0 ≤ v) (hs : RowOk 1 s) (h1 : cl s ≠ []) : RowOk (n + 1) (cutS x none (some v) ++ s ++ cutS x (some v) none) := by
  have e : cl (cutS x none (some v) ++ s ++ cutS x (some v) none) = (cl x).take v.toNat ++ cl s ++ (cl x).drop v.toNat := by
    rw [cl_app, cl_app, cutS_lo hv, cutS_hi hv]
  refine ⟨?_, fun m => ?_, fun m => ?_⟩
  · rw [← cl_len, e, List.length_append, List.length_append, List.length_take, List.length_drop, cl_len, cl_len]
    have := h.len
    have := hs.len
    omega
  · rw [e, List.mem_append, List.mem_append] at m
    rcases m with (m | m) | m
    · exact h.no (List.mem_of_mem_take m)
    · exact hs.no m
    · exact h.no (List.mem_of_mem_drop m)
  · rw [e] at m
    cases q : (cl x).take v.toNat with
    | nil =>
      rw [q, List.nil_append] at m
      cases r : cl s with
      | nil => exact h1 r
      | cons c cs =>
        rw [r] at m
        exact hs.hd (by rw [r]; exact m)
    | cons c cs =>
      rw [q] at m
      refine h.hd ?_
      have z : ((cl x).take v.toNat).head? = some 114 := by
        rw [q]
        exact m
      rw [List.head?_take] at z
      split at z
      · cases z
      · exact z
/-! ### the rows of a drawn machine -/
def digL (l : List Nat) : Bool := l.all fun c => decide (48 ≤ c) && decide (c ≤ 57)
theorem SmI.dig {i : Int} (h : SmI i) : digL (cl (numS i)) = true := by
  have y : ∀ n, n < 100 → digL (cl (numS ((n : Nat) : Int))) = true := by decide +kernel
  have e : i = ((i.toNat : Nat) : Int) := (Int.toNat_of_nonneg h.1).symm
  have z : i.toNat < 100 := by
    have := h.1
    have := h.2
    omega
  rw [e]
  exact y _ z
theorem SmI.not {i : Int} (h : SmI i) {c : Nat} (hc : c < 48) : c ∉ cl (numS i) := fun m => by
  have z := List.all_eq_true.mp h.dig c m
  simp only [Bool.and_eq_true, decide_eq_true_eq] at z
  omega
theorem hd_app {a b : List Nat} {c : Nat} (ha : a.head? = some c) : (a ++ b).head? = some c := by
  cases a with
  | nil => cases ha
  | cons d r => exact ha
theorem pre_ok {a : Str} {i : Int} (h : SmI i) (ha : a.length ≤ 9) (hn : 10 ∉ cl a) {c : Nat} (hh : (cl a).head? = some c) (hc : c ≠ 114) : RowOk 40 (a ++ numS i) := by
  refine ⟨pre_len ha h, fun m => ?_, fun m => ?_⟩
  · rw [cl_app, List.mem_append] at m
    rcases m with m | m
    · exact hn m
    · exact h.not (by decide) m
  · rw [cl_app, hd_app hh] at m
    exact hc (Option.some.inj m)
theorem joinL_mem {c x : Nat} : ∀ {ps : List (List Nat)}, x ∈ TL.joinL [c] ps → x = c ∨ ∃ p ∈ ps, x ∈ p
  | [], h => absurd h List.not_mem_nil
  | [p], h => .inr ⟨p, List.mem_cons_self, h⟩
  | p :: q :: r, h => by
    have h : x ∈ p ++ ([c] ++ TL.joinL [c] (q :: r)) := h
    rcases List.mem_append.mp h with z | z
    · exact .inr ⟨p, List.mem_cons_self, z⟩
    · rcases List.mem_append.mp z with w | w
      · exact .inl (List.mem_singleton.mp w)
      · rcases joinL_mem w with e | ⟨y, hy, hx⟩
        · exact .inl e
        · exact .inr ⟨y, List.mem_cons_of_mem _ hy, hx⟩
theorem joinL_head {c d : Nat} {p : List Nat} {ps : List (List Nat)} (h : p.head? = some d) : (TL.joinL [c] (p :: ps)).head? = some d := by
  cases ps with
  | nil => exact h
  | cons q r =>
    show (p ++ ([c] ++ TL.joinL [c] (q :: r))).head? = _
    exact hd_app h
theorem cl_join (ys : List Str) : cl (Txt.join sp ys) = TL.joinL [32] (ys.map cl) := by
  rw [join_S']
  have e2 : sp.cps.toList = [32] := by decide +kernel
  rw [e2] <;> exact cl_S _
theorem words_ok {w : Str} {ns : List Int} (hl : (Txt.join sp (w :: ns.map numS)).length ≤ 40) (hw : 10 ∉ cl w) {c : Nat} (hh : (cl w).head? = some c) (hc : c ≠ 114) (h : ∀ i ∈ ns, SmI i) : RowOk 40 (Txt.join sp (w :: ns.map numS)) := by
  refine ⟨hl, fun m => ?_, fun m => ?_⟩
  · rw [cl_join] at m
    rcases joinL_mem m with e | ⟨p, hp, hx⟩
    · cases e
    · rw [List.map_cons, List.map_map] at hp
      rcases List.mem_cons.mp hp with e | e
      · rw [e] at hx
        exact hw hx
      · obtain ⟨i, hi, rfl⟩ := List.mem_map.mp e
        exact (h i hi).not (by decide) hx
  · rw [cl_join, List.map_cons, joinL_head hh] at m
    exact hc (Option.some.inj m)
abbrev opNames : List Str := ["alloc", "free", "adopt", "grow", "large", "drain"]
theorem opNames_ok : ∀ w ∈ opNames, w.length ≤ 5 ∧ 10 ∉ cl w ∧ ∃ c ∈ (cl w).head?, c ≠ 114 := by
  have z : ∀ w ∈ opNames, w.length ≤ 5 ∧ 10 ∉ cl w ∧ (cl w).head? ≠ none ∧ (cl w).head? ≠ some 114 := by decide +kernel
  intro w hw
  obtain ⟨a, b, c, d⟩ := z w hw
  refine ⟨a, b, ?_⟩
  cases e : (cl w).head? with
  | none => exact absurd e c
  | some x => exact ⟨x, rfl, fun q => d (by rw [e, q])⟩
theorem GenOp.nm {k s : Int} {o : Op} (h : GenOp k s o) : o.1 ∈ opNames := by
  rcases h with ⟨a, b, rfl, _⟩ | ⟨b, rfl | rfl | rfl, _⟩ | ⟨a, b, rfl, _⟩ | rfl
  · show ("alloc" : Str) ∈ opNames
    decide +kernel
  · show ("free" : Str) ∈ opNames
    decide +kernel
  · show ("adopt" : Str) ∈ opNames
    decide +kernel
  · show ("grow" : Str) ∈ opNames
    decide +kernel
  · show ("large" : Str) ∈ opNames
    decide +kernel
  · show ("drain" : Str) ∈ opNames
    decide +kernel
theorem GenOp.sm {k s : Int} {o : Op} (h : GenOp k s o) (hk : k ≤ 90) (hs : s ≤ 90) : SmO o := by
  have w := (opNames_ok _ h.nm).1
  rcases h with ⟨a, b, rfl, a0, a1, b0, b1⟩ | ⟨b, e, b0, b1⟩ | ⟨a, b, rfl, a0, a1, b0, b1⟩ | rfl
  · refine ⟨w, Nat.le_refl 2, fun i hi => ?_⟩
    have hi : i ∈ [a, b] := hi
    simp only [List.mem_cons, List.not_mem_nil, or_false] at hi
    rcases hi with e | e <;> subst e <;> constructor <;> omega
  · have e2 : o.2 = [b] := by rcases e with e | e | e <;> rw [e]
    refine ⟨w, by rw [e2]; show 1 ≤ 2; decide, fun i hi => ?_⟩
    rw [e2] at hi
    rw [List.mem_singleton.mp hi]
    constructor <;> omega
  · refine ⟨w, Nat.le_refl 2, fun i hi => ?_⟩
    have hi : i ∈ [a, b] := hi
    simp only [List.mem_cons, List.not_mem_nil, or_false] at hi
    rcases hi with e | e <;> subst e <;> constructor <;> omega
  · exact ⟨w, Nat.zero_le 2, fun i hi => absurd hi List.not_mem_nil⟩
theorem GenOp.wd {k s : Int} {o : Op} (h : GenOp k s o) : 10 ∉ cl o.1 ∧ ∃ c, (cl o.1).head? = some c ∧ c ≠ 114 := by
  obtain ⟨_, a, c, b, d⟩ := opNames_ok _ h.nm
  exact ⟨a, c, b, d⟩
theorem Gen.small {z : Sett} (g : Gen z) (hf : z.fault = none ∨ ∃ x, z.fault = some x ∧ x ∈ faults) : Small z := by
  have cn := g.cn
  refine ⟨⟨?_, ?_⟩, cn.2, fun i hi => ?_, g.tn.2, fun t ht => ⟨?_, (g.ti t ht).2.2.1, fun o ho => ((g.ti t ht).2.2.2 o ho).sm (by omega) (by have := g.sl; omega)⟩, ⟨?_, ?_⟩, ⟨?_, ?_⟩, ⟨?_, ?_⟩, ⟨?_, ?_⟩, ⟨?_, ?_⟩, hf⟩
  · have := g.so; omega
  · have := g.so; omega
  · have := g.ci i hi; constructor <;> omega
  · have := g.ti t ht; have := g.so; constructor <;> omega
  · have := g.pa; omega
  · have := g.pa; omega
  · have := g.ba; omega
  · have := g.ba; omega
  · have := g.sa; omega
  · have := g.sa; omega
  · have := g.sl; omega
  · have := g.sl; omega
  · have := g.st; omega
  · have := g.st; omega
theorem Gen.rows {z : Sett} (g : Gen z) (hf : z.fault = none ∨ ∃ x, z.fault = some x ∧ x ∈ faults) : ∀ x ∈ rowsOf z, RowOk 40 x := fun x hx => by
  have sm := g.small hf
  unfold rowsOf at hx
  rw [List.mem_append, List.mem_append] at hx
  rcases hx with (e | e) | e
  · unfold headRows at e
    simp only [List.mem_cons, List.not_mem_nil, or_false] at e
    rcases e with e | e | e | e | e | e | e <;> rw [e]
    · exact pre_ok sm.so (by decide +kernel) (by decide +kernel) (c := 115) (by decide +kernel) (by decide)
    · exact words_ok (cls_len sm) (by decide +kernel) (c := 99) (by decide +kernel) (by decide) sm.ci
    · exact pre_ok sm.pa (by decide +kernel) (by decide +kernel) (c := 112) (by decide +kernel) (by decide)
    · exact pre_ok sm.ba (by decide +kernel) (by decide +kernel) (c := 98) (by decide +kernel) (by decide)
    · exact pre_ok sm.sa (by decide +kernel) (by decide +kernel) (c := 115) (by decide +kernel) (by decide)
    · exact pre_ok sm.sl (by decide +kernel) (by decide +kernel) (c := 115) (by decide +kernel) (by decide)
    · exact pre_ok sm.st (by decide +kernel) (by decide +kernel) (c := 115) (by decide +kernel) (by decide)
  · have l := faultRow_len sm x e
    unfold faultRow at e
    rcases sm.fa with q | ⟨y, q, hy⟩
    · rw [q] at e
      cases e
    · rw [q] at e
      rw [List.mem_singleton.mp e]
      have y0 : ∀ y ∈ faults, 10 ∉ cl ("fault " ++ y) ∧ (cl ("fault " ++ y)).head? ≠ some 114 := by decide +kernel
      rw [List.mem_singleton.mp e] at l
      exact ⟨l, (y0 y hy).1, (y0 y hy).2⟩
  · obtain ⟨t, ht, hx⟩ := List.mem_flatMap.mp e
    have st := sm.ti t ht
    rcases List.mem_cons.mp hx with q | q
    · rw [q]
      exact pre_ok st.s (by decide +kernel) (by decide +kernel) (c := 116) (by decide +kernel) (by decide)
    · obtain ⟨o, ho, rfl⟩ := List.mem_map.mp q
      obtain ⟨a, c, b, d⟩ := ((g.ti t ht).2.2.2 o ho).wd
      exact words_ok (opRow_len (st.o o ho)) a b d (st.o o ho).i
end Hf
end
section
set_option maxHeartbeats 4000000
/-! D17: a bent text. -/
namespace Hf
open PySem PySem.Spec PyProof.Rows L2
def spBent : Sp := fun vs H Q _ => ∃ p r, ∃ rows : List Str, vs = [.ref p, .ref r] ∧ PoolAt H p ∧ H r = some (.lst (rows.map V.str)) ∧ r ≠ p ∧ 2 ≤ rows.length ∧ rows.length ≤ 33 ∧ (∀ x ∈ rows, RowOk 40 x) ∧
  ∀ H' l, ∀ rows' : List Str, ExtB p H H' → PoolAt H' p → H' l = some (.lst (rows'.map V.str)) → rows' ≠ [] → rows'.length ≤ 34 → (∀ x ∈ rows', RowOk 41 x) → Q (.ref l) H'
theorem cut_lo' {rows : List Str} {n : Nat} : cutV (rows.map V.str) none (some (n : Int)) = (rows.take n).map V.str := by
  rw [cut_lo (by omega), List.map_take]
  rfl
theorem cut_hi' {rows : List Str} {v : Int} (h : 0 ≤ v) : cutV (rows.map V.str) (some v) none = (rows.drop v.toNat).map V.str := by
  rw [cut_hi h, List.map_drop]
theorem get_str {rows : List Str} {n : Nat} (h : n < rows.length) : ∃ x, x ∈ rows ∧ atI (rows.map V.str) (n : Int) = some (.str x) := by
  refine ⟨rows[n], List.getElem_mem h, atI_nat (j := n) ?_⟩
  rw [List.getElem?_map, List.getElem?_eq_getElem h]
  rfl
abbrev others : List Str := ["thread 1", "free 0", "", "drain", "fault take", "fault none", "end", "alloc 2 0", "free 7"]
abbrev bends : List Str := ["0", "9", " ", "a", "-", "1"]
theorem RowOk.of {n : Nat} {x : Str} (h : x.length ≤ n ∧ 10 ∉ cl x ∧ (cl x).head? ≠ some 114) : RowOk n x := ⟨h.1, h.2.1, h.2.2⟩
theorem others_ok : ∀ x ∈ others, RowOk 41 x := by
  have z : ∀ x ∈ others, x.length ≤ 41 ∧ 10 ∉ cl x ∧ (cl x).head? ≠ some 114 := by decide +kernel
  exact fun x hx => .of (z x hx)
theorem bends_ok : ∀ x ∈ bends, RowOk 1 x ∧ cl x ≠ [] := by
  have z : ∀ x ∈ bends, (x.length ≤ 1 ∧ 10 ∉ cl x ∧ (cl x).head? ≠ some 114) ∧ cl x ≠ [] := by decide +kernel
  exact fun x hx => ⟨.of (z x hx).1, (z x hx).2⟩
/-- a row between the rows -/
theorem mid_ok {rows : List Str} {x : Str} (h : ∀ x ∈ rows, RowOk 40 x) (hl : rows.length ≤ 33) (hx : RowOk 41 x) (n m : Nat) (hm : n ≤ m) :
    ((rows.take n ++ [x]) ++ rows.drop m) ≠ [] ∧ ((rows.take n ++ [x]) ++ rows.drop m).length ≤ 34 ∧ ∀ y ∈ (rows.take n ++ [x]) ++ rows.drop m, RowOk 41 y := by
  refine ⟨fun e => ?_, ?_, fun y hy => ?_⟩
  · have z := congrArg List.length e
    rw [List.length_append, List.length_append] at z
    have : [x].length = 1 := rfl
    have : ([] : List Str).length = 0 := rfl
    omega
  · rw [List.length_append, List.length_append, List.length_take, List.length_drop]
    have : [x].length = 1 := rfl
    omega
  · rw [List.mem_append, List.mem_append] at hy
    rcases hy with (e | e) | e
    · exact (h y (List.mem_of_mem_take e)).mono (by decide)
    · rw [List.mem_singleton.mp e]
      exact hx
    · exact (h y (List.mem_of_mem_drop e)).mono (by decide)
section
variable {P : Program} {w : World} {K : Fg} {mg : Str → Option Value} {base : Heap}
theorem scLBent : FnScope ["_law_pool_here", "_law_rows", "_law_way", "_law_at", "_law_other", "_law_line", "_law_sign", "_law_spot"] ["_law_pool_here", "_law_rows"] (defScope sLBent) := ⟨rfl, rfl, rfl, by decide +kernel, rfl, by decide +kernel, by decide +kernel⟩
theorem c_bent (T : Txt K mg w) : Cal0 P w K mg base 2 "_law_bent" spBent := by
  refine cal_of (i := 42) T rfl (by decide +kernel) scLBent (fun _ _ _ _ _ _ us hl => match us, hl with | [_, _], _ => rfl) (fun vs H Q E h => ?_) (fun f cdv A outer s H vs Q E hr h => ?_)
  · obtain ⟨p, r, rows, rfl, _⟩ := h
    rfl
  · obtain ⟨p, r, rows, rfl, hp, hr0, nrp, l2, l33, hok, k⟩ := h
    refine ⟨_, (C8.pss_cut (ps_par (i := 2) (j := 3) (by rfl) scLBent.nd (by rfl) (by rfl) (by decide) (by rfl) (by rfl) (pa_cons (C8.pe_c (c_take T) hr (by decide) (by rfl) (pa_cons (pv 0) (pa_cons pe_int pa_nil))) (pa_cons (C8.pe_c (c_take T) hr (by decide) (by rfl) (pa_cons (pv 0) (pa_cons (pe_callB call_len_seq (by rfl) (fr T "len") boot_len (pa_cons (pv 1) pa_nil)) pa_nil))) pa_nil)) (by rfl))
      (pss_cons (ps_if (pt_cmpR op_eq (pv 2) pe_int (nomark _)) (pss_one (ps_ret (pe_op op_cat (pe_slice sl_list (pv 1) po_none (po_some (pv 3))) (pe_slice sl_list (pv 1) (po_some (pe_op op_add (pv 3) pe_int)) po_none)))) pss_nil)
      (pss_cons (ps_if (pt_cmpR op_eq (pv 2) pe_int (nomark _)) (pss_one (ps_ret (pe_op op_cat (pe_op op_cat (pe_slice sl_list (pv 1) po_none (po_some (pv 3))) (pe_lst (pa_cons (pe_ix ix_list (pv 1) (C8.pe_c (c_take T) hr (by decide) (by rfl) (pa_cons (pv 0) (pa_cons (pe_callB call_len_seq (by rfl) (fr T "len") boot_len (pa_cons (pv 1) pa_nil)) pa_nil))) (fun _ _ => rfl)) pa_nil))) (pe_slice sl_list (pv 1) (po_some (pv 3)) po_none)))) pss_nil)
      (pss_cons (ps_if (pt_cmpR op_eq (pv 2) pe_int (nomark _)) (C8.pss_cut (ps_set (i := 4) scLBent.nd (by rfl) (by first | exact Or.inl rfl | exact Or.inr rfl) (pe_lst (pa_cons pe_str (pa_cons pe_str (pa_cons pe_str (pa_cons pe_str (pa_cons pe_str (pa_cons pe_str (pa_cons pe_str (pa_cons pe_str (pa_cons pe_str pa_nil)))))))))))
      (pss_one (ps_ret (pe_op op_cat (pe_op op_cat (pe_slice sl_list (pv 1) po_none (po_some (pv 3))) (pe_lst (pa_cons (pe_ix ix_list (pv 4) (C8.pe_c (c_take T) hr (by decide) (by rfl) (pa_cons (pv 0) (pa_cons pe_int pa_nil))) (fun _ _ => rfl)) pa_nil))) (pe_slice sl_list (pv 1) (po_some (pe_op op_add (pv 3) (C8.pe_c (c_take T) hr (by decide) (by rfl) (pa_cons (pv 0) (pa_cons pe_int pa_nil))))) po_none))))) pss_nil)
      (C8.pss_cut (ps_par (i := 5) (j := 6) (by rfl) scLBent.nd (by rfl) (by rfl) (by decide) (by rfl) (by rfl) (pa_cons (pe_ix ix_list (pv 1) (pv 3) (fun _ _ => rfl)) (pa_cons (pe_ix ix_list (pe_lst (pa_cons pe_str (pa_cons pe_str (pa_cons pe_str (pa_cons pe_str (pa_cons pe_str (pa_cons pe_str pa_nil))))))) (C8.pe_c (c_take T) hr (by decide) (by rfl) (pa_cons (pv 0) (pa_cons pe_int pa_nil))) (fun _ _ => rfl)) pa_nil)) (by rfl))
      (C8.pss_cut (ps_set (i := 7) scLBent.nd (by rfl) (by first | exact Or.inl rfl | exact Or.inr rfl) (C8.pe_c (c_take T) hr (by decide) (by rfl) (pa_cons (pv 0) (pa_cons (pe_op op_add (pe_callB call_len_str (by rfl) (fr T "len") boot_len (pa_cons (pv 5) pa_nil)) pe_int) pa_nil))))
      (pss_one (ps_ret (pe_op op_cat (pe_op op_cat (pe_slice sl_list (pv 1) po_none (po_some (pv 3))) (pe_lst (pa_cons (pe_ix ix_list (pe_lst (pa_cons (pe_op op_add_str (pe_op op_add_str (pe_slice sl_str (pv 5) po_none (po_some (pv 7))) (pv 6)) (pe_slice sl_str (pv 5) (po_some (pv 7)) po_none)) (pa_cons (pe_slice sl_str (pv 5) po_none (po_some (pv 7))) pa_nil))) (pe_op op_sub (pv 2) pe_int) (fun _ _ => rfl)) pa_nil))) (pe_slice sl_list (pv 1) (po_some (pe_op op_add (pv 3) pe_int)) po_none)))))))))), ?_⟩
    have en := sizeLine_eq
    have lm : (rows.map V.str).length = rows.length := List.length_map _
    -- way, at
    refine ⟨fun σ' H' => ∃ way : Int, ∃ n : Nat, σ' = [some (.ref p), some (.ref r), some (.int way), some (.int n), none, none, none, none] ∧ ExtB p H H' ∧ PoolAt H' p ∧ H' r = some (.lst (rows.map V.str)) ∧ 0 ≤ way ∧ way < 5 ∧ n < rows.length, ?_, ?_⟩
    · refine ⟨_, rfl, p, 5, rfl, hp, by decide, by decide, fun H1 d x1 hp1 d0 d1 => ?_⟩
      have h1 := x1 _ _ nrp hr0
      refine ⟨_, rfl, _, rfl, r, _, rfl, .inl (SqL.of h1), p, _, rfl, hp1, by omega, by omega, fun H2 e x2 hp2 e0 e1 => ?_⟩
      have ee : ((e.toNat : Nat) : Int) = e := Int.toNat_of_nonneg e0
      exact ⟨_, _, rfl, d, e.toNat, by rw [ee]; rfl, ExtB.trans x1 x2, hp2, x2 _ _ nrp h1, d0, d1, by omega⟩
    clear hp hr0
    rintro σ' H1 ⟨way, n, rfl, x1, hp1, h1, w0, w1, hn⟩
    -- rows[:at]
    have pre : ∀ {Q : VK}, (∀ H2 a, Ext H1 H2 → ExtB p H H2 → PoolAt H2 p → H2 a = some (.lst ((rows.take n).map V.str)) → a ≠ p → Q (.ref a) H2) →
        rSlL K (.ref r) none (some (n : Int)) H1 Q := fun {Q} g => ⟨r, _, rfl, SqL.of h1, fun a na => g _ a (Ext.new Ext.rfl' na) (ExtB.new x1 na) (hp1.ext (Ext.new Ext.rfl' na)) (by rw [cut_lo']; exact upd_same) (hp1.ne na)⟩
    -- .. + [x] + rows[m:]
    have post : ∀ {H2 : Hp} {a b : Addr} {x : Str} {v : Int}, n ≤ v.toNat → 0 ≤ v → RowOk 41 x → ExtB p H H2 → PoolAt H2 p → H2 r = some (.lst (rows.map V.str)) → H2 a = some (.lst ((rows.take n).map V.str)) → H2 b = some (.lst [.str x]) →
        ∀ {H3 : Hp} {c : Addr}, H2 c = none → ExtB p (upd H2 c (.lst ((rows.take n).map V.str ++ [.str x]))) H3 → PoolAt H3 p → c ≠ p →
        rSlL K (.ref r) (some v) none H3 (fun y H4 => rCat (.ref c) y H4 Q) := fun {H2 a b x v} hm hv hx x2 hp2 hr2 ha hb {H3 c} nc x3 hp3 ncp => by
      have z := mid_ok hok l33 hx n v.toNat hm
      have hr3 := x3 _ _ nrp ((upd_ne (ne_of_none hr2 nc)).trans hr2)
      have hc3 := x3 _ _ ncp upd_same
      refine ⟨r, _, rfl, SqL.of hr3, fun d nd => ?_⟩
      rw [cut_hi' hv]
      have y4 := Ext.new (o := .lst ((rows.drop v.toNat).map V.str)) Ext.rfl' nd
      refine ⟨c, d, _, _, rfl, rfl, y4 _ _ hc3, upd_same, ?_, fun e ne => ?_⟩
      · have z2 := z.2.1
        rw [List.length_append] at z2
        rw [List.length_append, List.length_map, List.length_map]
        rw [List.length_append] at z2
        exact Nat.le_trans z2 (by omega)
      · refine k _ e _ (ExtB.new (ExtB.new (ExtB.trans (ExtB.new x2 nc) x3) nd) ne) ((hp3.ext y4).ext (Ext.new Ext.rfl' ne)) ?_ z.1 z.2.1 z.2.2
        rw [List.map_append, List.map_append]
        exact upd_same
    refine ⟨_, rfl, rfl, _, rfl, ite2 (fun c => ?_) (fun c0 => ?_)⟩
    · refine ⟨_, rfl, _, rfl, _, rfl, pre fun H2 a y2 x2 hp2 ha nap => ?_⟩
      refine ⟨_, rfl, _, rfl, _, _, rfl, rfl, _, rfl, r, _, rfl, SqL.of (y2 _ _ h1), fun b nb => ?_⟩
      rw [cut_hi' (by omega)]
      have y3 := Ext.new (o := .lst ((rows.drop ((n : Int) + 1).toNat).map V.str)) Ext.rfl' nb
      refine ⟨a, b, _, _, rfl, rfl, y3 _ _ ha, upd_same, ?_, fun d nd => ?_⟩
      · rw [List.length_map, List.length_map, List.length_take, List.length_drop]
        omega
      · have hl : (rows.take n ++ rows.drop ((n : Int) + 1).toNat).length = rows.length - 1 := by
          rw [List.length_append, List.length_take, List.length_drop]
          omega
        refine k _ d (rows.take n ++ rows.drop ((n : Int) + 1).toNat) (ExtB.new (ExtB.new x2 nb) nd) ((hp2.ext y3).ext (Ext.new Ext.rfl' nd)) (by rw [List.map_append]; exact upd_same) (fun e => ?_) (by omega) (fun y hy => ?_)
        · rw [e] at hl
          have : ([] : List Str).length = 0 := rfl
          omega
        · rcases List.mem_append.mp hy with e | e
          · exact (hok y (List.mem_of_mem_take e)).mono (by decide)
          · exact (hok y (List.mem_of_mem_drop e)).mono (by decide)
    refine ⟨_, rfl, rfl, _, rfl, ite2 (fun c => ?_) (fun c1 => ?_)⟩
    · refine ⟨_, rfl, _, rfl, _, rfl, pre fun H2 a y2 x2 hp2 ha nap => ?_⟩
      have h2 := y2 _ _ h1
      refine ⟨_, rfl, _, rfl, _, rfl, r, _, rfl, .inl (SqL.of h2), p, _, rfl, hp2, by omega, by omega, fun H3 d x3 hp3 d0 d1 => ?_⟩
      obtain ⟨x, hx, ex⟩ := get_str (rows := rows) (n := d.toNat) (by omega)
      rw [Int.toNat_of_nonneg d0] at ex
      have h3 := x3 _ _ nrp h2
      refine ⟨r, _, d, _, rfl, rfl, SqL.of h3, ex, by show 1 ≤ sizeLine; omega, fun b nb => ?_⟩
      have y4 := Ext.new (o := .lst [.str x]) Ext.rfl' nb
      refine ⟨a, b, _, _, rfl, rfl, y4 _ _ (x3 _ _ nap ha), upd_same, by rw [List.length_map, List.length_take]; show _ + 1 ≤ _; omega, fun c nc => ?_⟩
      have hp4 := hp3.ext y4
      exact ⟨_, rfl, _, rfl, _, rfl, post (v := n) (by omega) (by omega) ((hok x hx).mono (by decide)) (ExtB.new (ExtB.trans x2 x3) nb) hp4 (y4 _ _ h3) (y4 _ _ (x3 _ _ nap ha)) upd_same nc ExtB.rfl' (hp4.ext (Ext.new Ext.rfl' nc)) (hp4.ne nc)⟩
    refine ⟨_, rfl, rfl, _, rfl, ite2 (fun c => ?_) (fun c2 => ?_)⟩
    · refine ⟨fun σ' H' => ∃ o, σ' = [some (.ref p), some (.ref r), some (.int way), some (.int n), some (.ref o), none, none, none] ∧ ExtB p H H' ∧ PoolAt H' p ∧ H' r = some (.lst (rows.map V.str)) ∧ H' o = some (.lst (others.map V.str)) ∧ o ≠ p, ?_, ?_⟩
      · refine ⟨by show 9 ≤ sizeLine; omega, fun o no => ⟨o, rfl, ExtB.new x1 no, hp1.ext (Ext.new Ext.rfl' no), (upd_ne (ne_of_none h1 no)).trans h1, upd_same, hp1.ne no⟩⟩
      clear pre hp1 h1 x1
      rintro σ' H2 ⟨o, rfl, x2, hp2, h2, ho, nop⟩
      refine ⟨_, rfl, _, rfl, _, rfl, r, _, rfl, SqL.of h2, fun a na => ?_⟩
      rw [cut_lo']
      have y3 := Ext.new (o := .lst ((rows.take n).map V.str)) Ext.rfl' na
      have x3 := ExtB.new (o := .lst ((rows.take n).map V.str)) x2 na
      have hp3 := hp2.ext y3
      have h3 := y3 _ _ h2
      have ho3 := y3 _ _ ho
      have ha3 : (upd H2 a (.lst ((rows.take n).map V.str))) a = some (.lst ((rows.take n).map V.str)) := upd_same
      have nap := hp2.ne na
      generalize upd H2 a (.lst ((rows.take n).map V.str)) = H3 at x3 hp3 h3 ho3 ha3 ⊢
      refine ⟨_, rfl, _, rfl, p, _, rfl, hp3, by decide, by decide, fun H4 d x4 hp4 d0 d1 => ?_⟩
      obtain ⟨x, hx, ex⟩ := get_str (rows := others) (n := d.toNat) (by show _ < 9; omega)
      rw [Int.toNat_of_nonneg d0] at ex
      have h4 := x4 _ _ nrp h3
      have ha4 := x4 _ _ nap ha3
      refine ⟨o, _, d, _, rfl, rfl, SqL.of (x4 _ _ nop ho3), ex, by show 1 ≤ sizeLine; omega, fun b nb => ?_⟩
      have y5 := Ext.new (o := .lst [.str x]) Ext.rfl' nb
      refine ⟨a, b, _, _, rfl, rfl, y5 _ _ ha4, upd_same, by rw [List.length_map, List.length_take]; show _ + 1 ≤ _; omega, fun c nc => ?_⟩
      have hp5 := hp4.ext y5
      have hp6 := hp5.ext (Ext.new (o := .lst ((rows.take n).map V.str ++ [.str x])) Ext.rfl' nc)
      refine ⟨_, rfl, _, rfl, _, rfl, p, 2, rfl, hp6, by decide, by decide, fun H7 e x7 hp7 e0 e1 => ⟨_, _, rfl, rfl, _, rfl, ?_⟩⟩
      exact post (v := n + e) (by omega) (by omega) (others_ok x hx) (ExtB.new (ExtB.trans x3 x4) nb) hp5 (y5 _ _ h4) (y5 _ _ ha4) upd_same nc x7 hp7 (hp5.ne nc)
    -- line, sign
    obtain ⟨x, hx, ex⟩ := get_str (rows := rows) hn
    have ox := hok x hx
    refine ⟨fun σ' H' => ∃ sg, (RowOk 1 sg ∧ cl sg ≠ []) ∧ σ' = [some (.ref p), some (.ref r), some (.int way), some (.int n), none, some (.str x), some (.str sg), none] ∧ ExtB p H H' ∧ PoolAt H' p ∧ H' r = some (.lst (rows.map V.str)), ?_, ?_⟩
    · refine ⟨_, rfl, _, rfl, r, _, n, _, rfl, rfl, SqL.of h1, ex, by show 6 ≤ sizeLine; omega, fun b nb => ?_⟩
      have y2 := Ext.new (o := .lst (bends.map V.str)) Ext.rfl' nb
      have hp2 := hp1.ext y2
      refine ⟨_, rfl, p, 6, rfl, hp2, by decide, by decide, fun H3 d x3 hp3 d0 d1 => ?_⟩
      obtain ⟨sg, hs, es⟩ := get_str (rows := bends) (n := d.toNat) (by show _ < 6; omega)
      rw [Int.toNat_of_nonneg d0] at es
      exact ⟨b, _, d, _, rfl, rfl, SqL.of (x3 _ _ (hp1.ne nb) upd_same), es, _, _, rfl, sg, bends_ok sg hs, rfl, ExtB.trans (ExtB.new x1 nb) x3, hp3, x3 _ _ nrp (y2 _ _ h1)⟩
    clear pre hp1 h1 x1
    rintro σ' H2 ⟨sg, ⟨osg, nsg⟩, rfl, x2, hp2, h2⟩
    -- spot
    refine ⟨fun σ' H' => ∃ t : Int, 0 ≤ t ∧ σ' = [some (.ref p), some (.ref r), some (.int way), some (.int n), none, some (.str x), some (.str sg), some (.int t)] ∧ ExtB p H H' ∧ PoolAt H' p ∧ H' r = some (.lst (rows.map V.str)), ?_, ?_⟩
    · have := ox.len
      refine ⟨_, rfl, _, rfl, x, rfl, by omega, _, _, rfl, rfl, p, _, rfl, hp2, by omega, by omega, fun H3 d x3 hp3 d0 d1 => ⟨d, d0, rfl, ExtB.trans x2 x3, hp3, x3 _ _ nrp h2⟩⟩
    clear hp2 h2 x2
    rintro σ' H2 ⟨t, t0, rfl, x2, hp2, h2⟩
    -- the bent row
    refine ⟨_, rfl, _, rfl, _, rfl, r, _, rfl, SqL.of h2, fun a na => ?_⟩
    rw [cut_lo']
    have y3 := Ext.new (o := .lst ((rows.take n).map V.str)) Ext.rfl' na
    have x3 := ExtB.new (o := .lst ((rows.take n).map V.str)) x2 na
    have hp3 := hp2.ext y3
    have h3 := y3 _ _ h2
    have ha3 : (upd H2 a (.lst ((rows.take n).map V.str))) a = some (.lst ((rows.take n).map V.str)) := upd_same
    generalize upd H2 a (.lst ((rows.take n).map V.str)) = H3 at x3 hp3 h3 ha3 ⊢
    have b1 := ox.bend t0 osg nsg
    have b2 := (ox.take t0).mono (m := 41) (by decide)
    have b3 := b1.len
    rw [app_len, app_len] at b3
    have lx := ox.len
    refine ⟨_, rfl, _, rfl, _, rfl, x, rfl, by omega, _, rfl, _, _, rfl, rfl, by omega, _, rfl, _, rfl, _, rfl, x, rfl, by omega, _, _, rfl, rfl, by rw [app_len]; omega, ?_⟩
    refine ⟨_, rfl, _, rfl, _, rfl, x, rfl, by omega, by show 2 ≤ sizeLine; omega, fun g ng => ?_⟩
    have y4 := Ext.new (o := .lst [.str (cutS x none (some t) ++ sg ++ cutS x (some t) none), .str (cutS x none (some t))]) Ext.rfl' ng
    have x4 := ExtB.new (o := .lst [.str (cutS x none (some t) ++ sg ++ cutS x (some t) none), .str (cutS x none (some t))]) x3 ng
    have hp4 := hp3.ext y4
    have h4 := y4 _ _ h3
    have ha4 := y4 _ _ ha3
    have hg4 : (upd H3 g (.lst [.str (cutS x none (some t) ++ sg ++ cutS x (some t) none), .str (cutS x none (some t))])) g = some (.lst [.str (cutS x none (some t) ++ sg ++ cutS x (some t) none), .str (cutS x none (some t))]) := upd_same
    generalize upd H3 g (.lst [.str (cutS x none (some t) ++ sg ++ cutS x (some t) none), .str (cutS x none (some t))]) = H4 at x4 hp4 h4 ha4 hg4 ⊢
    have fin : ∃ u, RowOk 41 u ∧ atI [V.str (cutS x none (some t) ++ sg ++ cutS x (some t) none), .str (cutS x none (some t))] (way - 3) = some (.str u) := by
      have w3 : ¬ way = 0 := fun z => c0 (decide_eq_true (congrArg V.int z))
      have w4 : ¬ way = 1 := fun z => c1 (decide_eq_true (congrArg V.int z))
      have w5 : ¬ way = 2 := fun z => c2 (decide_eq_true (congrArg V.int z))
      rcases Int.lt_or_le way 4 with h | h
      · have e : way - 3 = ((0 : Nat) : Int) := by omega
        rw [e]
        exact ⟨_, b1, atI_nat (j := 0) rfl⟩
      · have e : way - 3 = ((1 : Nat) : Int) := by omega
        rw [e]
        exact ⟨_, b2, atI_nat (j := 1) rfl⟩
    obtain ⟨u, hu, eu⟩ := fin
    refine ⟨_, rfl, _, _, rfl, rfl, g, _, way - 3, _, rfl, rfl, SqL.of hg4, eu, by show 1 ≤ sizeLine; omega, fun b nb => ?_⟩
    have y5 := Ext.new (o := .lst [.str u]) Ext.rfl' nb
    refine ⟨a, b, _, _, rfl, rfl, y5 _ _ ha4, upd_same, by rw [List.length_map, List.length_take]; show _ + 1 ≤ _; omega, fun c nc => ?_⟩
    have hp5 := hp4.ext y5
    exact ⟨_, rfl, _, rfl, _, _, rfl, rfl, _, rfl, post (v := n + 1) (by omega) (by omega) hu (ExtB.new x4 nb) hp5 (y5 _ _ h4) (y5 _ _ ha4) upd_same nc ExtB.rfl' (hp5.ext (Ext.new Ext.rfl' nc)) (hp5.ne nc)⟩
end
end Hf
end
section
set_option maxHeartbeats 4000000
/-! Ky: a call by keywords alone; a choice of two readings. -/
namespace Hf
open PySem PySem.Spec PyProof.Rows L2
def tCallK0 (sp : Sp) (gV : List V → List V → List V) (m : Nat) (E : XK) (tk : TA) : TE := fun σ H Q => tk σ H fun zs H2 => zs.length = m ∧ sp (gV [] zs) H2 Q E
section
variable {X : Cx} {CX : CXT} {k : Nat} {f : Addr} {fd : FuncData} {ps ks : List Str} {sp : Sp} {E : XK} {x : Str} {p pos : Pos} {kws : List Keyword} {tk : TA} {g : List Value → List Value → List Value} {gV : List V → List V → List V}
theorem pe_callK0 (F : FnOk X.prog X.w X.K X.mg X.base CX k f fd ps sp) (hr : Room k X.A) (hg : Gl X x) (hm : X.mg x = some (.ref f)) (hk : PySem.W.keepIn X.K (.ref f) = true) (hb : KBn X.K fd ps 0 ks g gV) (hx : Passes CX X E) (hkw : PK X kws tk)
    (hall : (backToKw pos (keywordEach kws X.env)).all (·.1.isSome) = true := by rfl) (hks : (backToKw pos (keywordEach kws X.env)).filterMap (·.1) = ks := by rfl) (hdb : (x == ("__debug__" : Str)) = false := by decide)
    (hpl : ((backTo pos (starEach [] X.env)).any (·.1) || (backToKw pos (keywordEach kws X.env)).any (·.1.isNone)) = false := by rfl) :
    PE X (.Call (.Name x p) [] kws pos) (tCallK0 sp gV ks.length E tk) := by
  refine ⟨fun pins s σ H Q I h => ?_⟩
  refine wpAny_Call_Name_kw (ld_glob I hg hm ?_ hdb)
  refine PySem.W.callWith_KW0 (h₀ := X.base) I.ok.mod.kin hk hall ?_ hpl
  refine thn (hkw.run pos pins s σ H _ I h) fun ws s2 ⟨zs, H2, I2, rz, l2, q2⟩ => ⟨I2.kIn, ?_⟩
  rw [hks]
  have r2 := hb.rel (vs := []) (us := []) .nil rz
  refine wpAny_call (codeAny_mono (F.run X.A X.stack s2 H2 ⟨[], ks.zip ws⟩ (g [] ws) (gV [] zs) Q E hr I2.env0 (hb.to s2 [] ws I2.kIn rfl (rz.length.symm.trans l2)) r2 q2) fun r s' hq => ?_)
  cases r with
  | error e => exact hx pins σ H2 s2 e s' I2 hq
  | ok fl =>
    cases fl with
    | ret u => exact I2.after hq
    | next => exact False.elim hq
    | brk => exact False.elim hq
    | cont => exact False.elim hq
theorem passF : Passes (L2.CX X.prog X.w) X L2.E0 := fun _ _ _ _ _ _ _ h => by
  obtain ⟨_, _, _, _, _, _, _, _, _, _, _, _, e⟩ := h
  exact e.elim
end
/-- one parameter, by its name -/
theorem kb1 {K : Fg} {x q qual : Str} {params : Arguments} {body : List Stmt} {scope : Scope} {kws : List (Str × V)} {f : Addr} {fd : FuncData} (F : FunD K x qual params body scope [] kws f fd)
    (h : ∀ (kV doc pm : Value) (an : Option Addr) (cdv ct v : Value), bindArgs (PySem.W.fnOf x qual params body scope .none kV doc pm an cdv ct) ⟨[], [(q, v)]⟩ = pure [(q, v)]) : KBn K fd [q] 0 [q] (fun _ ws => ws) (fun _ zs => zs) := by
  obtain ⟨oc, od, dV, kV, doc, pm, an, cdv, ct, osl, rfl, lk, hcd, hD, hK⟩ := F.ex
  rcases hD with ⟨_, rfl⟩ | ⟨e, _⟩
  · refine ⟨fun s us ws _ l1 l2 => ?_, fun _ r2 => r2⟩
    match us, ws, l1, l2 with
    | [], [v], _, _ => exact .of_eq (h kV doc pm an cdv ct v)
  · exact absurd rfl e
section
variable {X : Cx} {k j : Nat} {x q : Str} {st : Stmt} {sp : Sp} {p pos kp : Pos} {e : Expr} {t : TE}
theorem pe_k0 (h : FnF L2.CX0 X.prog X.w X.K X.mg X.base k x st [q] sp) (hr : Room j X.A) (hk : k ≤ j) (hg : Gl X x) (T : Txt X.K X.mg X.w) (hx : x ∈ glos)
    (hb : ∀ (kV doc pm : Value) (an : Option Addr) (cdv ct v : Value), bindArgs (PySem.W.fnOf x x (defArgs st) (defBody st) (defScope st) .none kV doc pm an cdv ct) ⟨[], [(q, v)]⟩ = pure [(q, v)]) (he : PE X e t)
    (hdb : (x == ("__debug__" : Str)) = false := by decide) : PE X (.Call (.Name x p) [] [⟨some q, e, kp⟩] pos) (tCallK0 sp (fun _ zs => zs) 1 L2.E0 (tCons t tNil)) := by
  obtain ⟨fd, F, O⟩ := h
  exact pe_callK0 O (hr.mono hk) hg (T.glo x hx) F.kp (kb1 F hb) pass0 (pk_cons he pk_nil) (by rfl) (by rfl) hdb (by rfl)
theorem pe_k0X (h : FnF (L2.CX X.prog X.w) X.prog X.w X.K X.mg X.base k x st [q] sp) (hr : Room j X.A) (hk : k ≤ j) (hg : Gl X x) (T : Txt X.K X.mg X.w) (hx : x ∈ glos)
    (hb : ∀ (kV doc pm : Value) (an : Option Addr) (cdv ct v : Value), bindArgs (PySem.W.fnOf x x (defArgs st) (defBody st) (defScope st) .none kV doc pm an cdv ct) ⟨[], [(q, v)]⟩ = pure [(q, v)]) (he : PE X e t)
    (hdb : (x == ("__debug__" : Str)) = false := by decide) : PE X (.Call (.Name x p) [] [⟨some q, e, kp⟩] pos) (tCallK0 sp (fun _ zs => zs) 1 L2.E0 (tCons t tNil)) := by
  obtain ⟨fd, F, O⟩ := h
  exact pe_callK0 O (hr.mono hk) hg (T.glo x hx) F.kp (kb1 F hb) passF (pk_cons he pk_nil) (by rfl) (by rfl) hdb (by rfl)
end
/-! ### two readings -/
theorem OpR.or {X : Cx} {op : Value → Value → Sem Value} {r1 r2 : R2} (h1 : OpR X op r1) (h2 : OpR X op r2) : OpR X op (fun x y H Q => r1 x y H Q ∨ r2 x y H Q) := by
  intro pins s σ H x y v u Q I rx ry hq
  rcases hq with hq | hq
  · exact h1 pins s σ H x y v u Q I rx ry hq
  · exact h2 pins s σ H x y v u Q I rx ry hq
theorem CallR.or {X : Cx} {f : Value} {r1 r2 : List V → Hp → VK → Prop} (h1 : CallR X f r1) (h2 : CallR X f r2) : CallR X f (fun xs H Q => r1 xs H Q ∨ r2 xs H Q) := by
  intro pins s σ H xs us Q I r hq
  rcases hq with hq | hq
  · exact h1 pins s σ H xs us Q I r hq
  · exact h2 pins s σ H xs us Q I r hq
end Hf
end
section
set_option maxHeartbeats 4000000
/-! Pl: a written text is read back. -/
namespace Hf
open PySem PySem.Spec PyProof.Rows L2
/-! ### what is read is data of no depth -/
theorem opB_mem {w : Str} (h : opBounds w ≠ none) : w ∈ opNames := by
  unfold opBounds at h
  split at h
  · rename_i e
    rw [e]
    decide +kernel
  split at h
  · rename_i e
    rw [e]
    decide +kernel
  split at h
  · rename_i e
    rw [e]
    decide +kernel
  split at h
  · rename_i e
    rw [e]
    decide +kernel
  split at h
  · rename_i e
    rw [e]
    decide +kernel
  split at h
  · rename_i e
    rw [e]
    decide +kernel
  · exact absurd rfl h
theorem said_ok {rows : List Str} {s : Sett} (h : saidOf rows = .ok s) : machineErr s = none ∧ (s.fault = none ∨ ∃ x, s.fault = some x ∧ x ∈ faults) := by
  unfold saidOf at h
  cases e : readM rows with
  | error n =>
    rw [e] at h
    cases h
  | ok s' =>
    rw [e] at h
    cases e2 : machineErr s' with
    | some nm =>
      simp only [e2] at h
      cases h
    | none =>
      simp only [e2] at h
      cases h
      refine ⟨e2, ?_⟩
      unfold readM at e
      split at e
      · cases e
      · split at e
        · cases e
        · rename_i k p hk
          split at e
          · cases e
          · cases e
            exact (fault_ok hk).1
theorem err_words {s : Sett} (h : machineErr s = none) : ∀ t ∈ s.threads, ∀ o ∈ t.2, o.1 ∈ opNames := fun t ht o ho => by
  unfold machineErr at h
  split at h
  · cases h
  split at h
  · cases h
  split at h
  · cases h
  split at h
  · cases h
  rename_i h4
  have a := List.all_eq_true.mp (Bool.not_eq_false _ ▸ h4 : s.threads.all _ = true) t ht
  unfold threadB at a
  rw [Bool.and_eq_true, Bool.and_eq_true] at a
  have b := List.all_eq_true.mp a.2.2 o ho
  unfold fitsB at b
  rw [Bool.and_eq_true, Bool.and_eq_true] at b
  refine opB_mem fun e => ?_
  have c := b.1.1
  unfold isOpB at c
  rw [e] at c
  cases c
theorem lay_all : ∀ {ds : List PyData}, (∀ d ∈ ds, d.canLay0 = true) → PyData.canLayAll0 ds = true
  | [], _ => rfl
  | d :: r, h => by
    show (PyData.canLay0 d && PyData.canLayAll0 r) = true
    rw [h d List.mem_cons_self, lay_all fun x hx => h x (List.mem_cons_of_mem _ hx)]
    rfl
theorem dep_all {m : Nat} : ∀ {ds : List PyData}, (∀ d ∈ ds, d.depth ≤ m) → PyData.depthAll ds ≤ m
  | [], _ => Nat.zero_le _
  | d :: r, h => Nat.max_le.mpr ⟨h d List.mem_cons_self, dep_all fun x hx => h x (List.mem_cons_of_mem _ hx)⟩
theorem ints_flat (ns : List Int) : PyData.canLayAll0 (ns.map .int) = true ∧ PyData.depthAll (ns.map .int) ≤ 0 := by
  refine ⟨lay_all fun d h => ?_, dep_all fun d h => ?_⟩ <;> obtain ⟨i, _, rfl⟩ := List.mem_map.mp h
  · rfl
  · exact Nat.le_refl _
theorem names_lay : ∀ w ∈ opNames, PyData.canLay0 (.str w) = true := by decide +kernel
theorem faults_lay : ∀ w ∈ faults, PyData.canLay0 (.str w) = true := by decide +kernel
theorem op_flat {o : Op} (h : o.1 ∈ opNames) : (opD o).canLay0 = true ∧ (opD o).depth ≤ 1 := by
  obtain ⟨a, b⟩ := ints_flat o.2
  constructor
  · show (PyData.canLay0 (.str o.1) && PyData.canLayAll0 (o.2.map .int)) = true
    rw [names_lay _ h, a]
    rfl
  · show max 0 (PyData.depthAll (o.2.map .int)) + 1 ≤ 1
    omega
theorem thr_flat {t : Thr} (h : ∀ o ∈ t.2, o.1 ∈ opNames) : (thrD t).canLay0 = true ∧ (thrD t).depth ≤ 3 := by
  have a : PyData.canLayAll0 (t.2.map opD) = true := lay_all fun d hd => by
    obtain ⟨o, ho, rfl⟩ := List.mem_map.mp hd
    exact (op_flat (h o ho)).1
  have b : PyData.depthAll (t.2.map opD) ≤ 1 := dep_all fun d hd => by
    obtain ⟨o, ho, rfl⟩ := List.mem_map.mp hd
    exact (op_flat (h o ho)).2
  constructor
  · show (true && (PyData.canLayAll0 (t.2.map opD) && true)) = true
    rw [a]
    rfl
  · show max 0 (max (PyData.depthAll (t.2.map opD) + 1) 0) + 1 ≤ 3
    omega
theorem set_shaped {s : Sett} (h : ∀ t ∈ s.threads, ∀ o ∈ t.2, o.1 ∈ opNames) (hf : s.fault = none ∨ ∃ x, s.fault = some x ∧ x ∈ faults) : SeqAt.shaped (setD s) = true := by
  have a : PyData.canLayAll0 (s.threads.map thrD) = true := lay_all fun d hd => by
    obtain ⟨o, ho, rfl⟩ := List.mem_map.mp hd
    exact (thr_flat (h o ho)).1
  have b : PyData.depthAll (s.threads.map thrD) ≤ 3 := dep_all fun d hd => by
    obtain ⟨o, ho, rfl⟩ := List.mem_map.mp hd
    exact (thr_flat (h o ho)).2
  obtain ⟨c, d⟩ := ints_flat s.classes
  have e : (optD s.fault).canLay0 = true ∧ (optD s.fault).depth ≤ 0 := by
    rcases hf with e | ⟨x, e, hx⟩ <;> rw [e]
    · exact ⟨rfl, Nat.le_refl _⟩
    · exact ⟨faults_lay x hx, Nat.le_refl _⟩
  unfold SeqAt.shaped
  rw [Bool.and_eq_true, decide_eq_true_eq]
  constructor
  · show (true && (PyData.canLayAll0 (s.classes.map .int) && (PyData.canLayAll0 (s.threads.map thrD) && (true && (true && (true && (true && (true && ((optD s.fault).canLay0 && true))))))))) = true
    rw [c, a, e.1]
    rfl
  · show max 0 (max (PyData.depthAll (s.classes.map .int) + 1) (max (PyData.depthAll (s.threads.map thrD) + 1) (max 0 (max 0 (max 0 (max 0 (max 0 (max (optD s.fault).depth 0)))))))) + 1 ≤ 64
    omega
theorem said_shaped {rows : List Str} {s : Sett} (h : saidOf rows = .ok s) : SeqAt.shaped (setD s) = true := by
  obtain ⟨a, b⟩ := said_ok h
  exact set_shaped (err_words a) b
/-! ### back -/
theorem split_words {ws : List Str} (hn : ws ≠ []) (h : ∀ x ∈ ws, 32 ∉ cl x) : Txt.split (Txt.join sp ws) sp = ws := by
  rw [split_sp]
  have e : (Txt.join sp ws).cps.toList = TL.joinL [32] (ws.map cl) := cl_join ws
  rw [e, pieces_join (c := 32) (by simpa using hn) fun p hp => by
    obtain ⟨x, hx, rfl⟩ := List.mem_map.mp hp
    exact h x hx]
  rw [List.map_map]
  conv => rhs; rw [← List.map_id ws]
  exact List.map_congr_left fun x _ => cl_ext (cl_S _)
theorem parse_num {i : Int} (h : SmI i) : parseNum (numS i) = some i := by
  have y : ∀ n, n < 100 → parseNum (numS ((n : Nat) : Int)) = some ((n : Nat) : Int) := by decide +kernel
  have e : i = ((i.toNat : Nat) : Int) := (Int.toNat_of_nonneg h.1).symm
  have z : i.toNat < 100 := by
    have := h.1
    have := h.2
    omega
  rw [e]
  exact y _ z
theorem all_some : ∀ ns : List Int, allSome (ns.map some) = some ns
  | [] => rfl
  | n :: r => by
    show (allSome (r.map some)).map (n :: ·) = _
    rw [all_some r]
    rfl
theorem words_back {w : Str} {ns : List Int} (hw : 32 ∉ cl w) (h : ∀ i ∈ ns, SmI i) : wordOf (Txt.join sp (w :: ns.map numS)) = w ∧ tailOf (Txt.join sp (w :: ns.map numS)) = ns.map numS ∧ numsOf (Txt.join sp (w :: ns.map numS)) = ns.map some := by
  have e : Txt.split (Txt.join sp (w :: ns.map numS)) sp = w :: ns.map numS := split_words (List.cons_ne_nil _ _) fun x hx => by
    rcases List.mem_cons.mp hx with q | q
    · rw [q]
      exact hw
    · obtain ⟨i, hi, rfl⟩ := List.mem_map.mp q
      exact (h i hi).not (by decide)
  have e2 := split_cons (Txt.join sp (w :: ns.map numS))
  rw [e] at e2
  injection e2 with a b
  refine ⟨a.symm, b.symm, ?_⟩
  unfold numsOf
  rw [← b, List.map_map]
  exact List.map_congr_left fun i hi => parse_num (h i hi)
theorem nums_back {w : Str} {ns : List Int} {most : Nat} (hw : 32 ∉ cl w) (h : ∀ i ∈ ns, SmI i) (h1 : 1 ≤ ns.length) (h2 : ns.length ≤ most) : numbersOf (Txt.join sp (w :: ns.map numS)) w most = some ns := by
  obtain ⟨a, b, c⟩ := words_back hw h
  unfold numbersOf
  rw [a, b, c, List.length_map, if_pos ⟨rfl, h1, h2⟩, all_some]
theorem pre_join {w v : Str} (e : cl v = cl w ++ [32]) (i : Int) : v ++ numS i = Txt.join sp (w :: [i].map numS) := by
  refine cl_ext ?_
  rw [cl_app, cl_join, e, List.append_assoc]
  rfl
theorem pre_back {w v : Str} {i : Int} (e : cl v = cl w ++ [32]) (hw : 32 ∉ cl w) (h : SmI i) : numbersOf (v ++ numS i) w 1 = some [i] := by
  rw [pre_join e]
  exact nums_back hw (fun j hj => by rw [List.mem_singleton.mp hj]; exact h) (Nat.le_refl _) (Nat.le_refl _)
theorem rh_step {rows ws : List Str} {p : Nat} {w l : Str} {ns : List Int} {r : List (List Int)} (h1 : rows[p]? = some l) (h2 : numbersOf l w (mostOf w) = some ns) (h3 : readHeads rows (p + 1) ws = .ok r) : readHeads rows p (w :: ws) = .ok (ns :: r) := by
  unfold readHeads
  rw [h1]
  simp only [Option.bind_some, h2, h3]
theorem heads_back {z : Sett} (sm : Small z) (h1 : 1 ≤ z.classes.length) (rest : List Str) : readHeads (headRows z ++ rest) 0 heads = .ok [[z.sockets], z.classes, [z.pages], [z.batch], [z.spare], [z.slots], [z.stops]] := by
  have m1 : mostOf "classes" = 3 := by decide +kernel
  refine rh_step rfl (pre_back (by decide +kernel) (by decide +kernel) sm.so) ?_
  refine rh_step rfl (nums_back (by decide +kernel) sm.ci h1 (by rw [m1]; exact sm.cn)) ?_
  refine rh_step rfl (pre_back (by decide +kernel) (by decide +kernel) sm.pa) ?_
  refine rh_step rfl (pre_back (by decide +kernel) (by decide +kernel) sm.ba) ?_
  refine rh_step rfl (pre_back (by decide +kernel) (by decide +kernel) sm.sa) ?_
  refine rh_step rfl (pre_back (by decide +kernel) (by decide +kernel) sm.sl) ?_
  refine rh_step rfl (pre_back (by decide +kernel) (by decide +kernel) sm.st) ?_
  rfl
theorem thread_word {i : Int} (h : SmI i) : wordOf ("thread " ++ numS i) = "thread" := by
  rw [pre_join (w := "thread") (by decide +kernel)]
  exact (words_back (by decide +kernel) fun j hj => by rw [List.mem_singleton.mp hj]; exact h).1
theorem thread_nums {i : Int} (h : SmI i) : numbersOf ("thread " ++ numS i) "thread" 1 = some [i] := pre_back (by decide +kernel) (by decide +kernel) h
theorem names_sp : ∀ w ∈ opNames, 32 ∉ cl w ∧ w ≠ "thread" := by decide +kernel
theorem isOp_gen {k s : Int} {o : Op} (h : GenOp k s o) (hk : k ≤ 3) (hs : s ≤ 8) : isOpB o.1 (o.2.map some) = true := by
  have b1 : opBounds "alloc" = some [(0, 2), (0, 7)] := by decide +kernel
  have b2 : opBounds "free" = some [(0, 7)] := by decide +kernel
  have b3 : opBounds "adopt" = some [(0, 7)] := by decide +kernel
  have b4 : opBounds "grow" = some [(0, 7)] := by decide +kernel
  have b5 : opBounds "large" = some [(1, 8), (0, 7)] := by decide +kernel
  have b6 : opBounds "drain" = some [] := by decide +kernel
  rcases h with ⟨a, b, rfl, a0, a1, c0, c1⟩ | ⟨b, rfl | rfl | rfl, c0, c1⟩ | ⟨a, b, rfl, a0, a1, c0, c1⟩ | rfl
  · unfold isOpB
    rw [b1]
    simp [inB]
    omega
  · unfold isOpB
    rw [b2]
    simp [inB]
    omega
  · unfold isOpB
    rw [b3]
    simp [inB]
    omega
  · unfold isOpB
    rw [b4]
    simp [inB]
    omega
  · unfold isOpB
    rw [b5]
    simp [inB]
    omega
  · unfold isOpB
    rw [b6]
    rfl
theorem op_back {k s : Int} {o : Op} (h : GenOp k s o) (hk : k ≤ 3) (hs : s ≤ 8) : wordOf (opRow o) ≠ "thread" ∧ opOf (opRow o) = some o := by
  obtain ⟨n1, n2⟩ := names_sp _ h.nm
  obtain ⟨a, b, c⟩ := words_back n1 (h.sm (by omega) (by omega)).i
  have a : wordOf (opRow o) = o.1 := a
  have c : numsOf (opRow o) = o.2.map some := c
  refine ⟨by rw [a]; exact n2, ?_⟩
  unfold opOf
  rw [a, c, isOp_gen h hk hs, if_pos rfl, all_some]
  rfl
theorem ops_back {k s : Int} (hk : k ≤ 3) (hs : s ≤ 8) : ∀ (ops : List Op) (rest : List Str) (p : Nat) (acc : List Thr) (t : Thr), (∀ o ∈ ops, GenOp k s o) → readThreads (ops.map opRow ++ rest) p (acc ++ [t]) = readThreads rest (p + ops.length) (acc ++ [(t.1, t.2 ++ ops)])
  | [], rest, p, acc, t, _ => by
    rw [List.append_nil]
    rfl
  | o :: r, rest, p, acc, t, h => by
    obtain ⟨a, b⟩ := op_back (h o List.mem_cons_self) hk hs
    show readThreads (opRow o :: (r.map opRow ++ rest)) p (acc ++ [t]) = _
    rw [read_op a b (by simp), addOp_snoc, ops_back hk hs r rest (p + 1) acc (t.1, t.2 ++ [o]) fun q hq => h q (List.mem_cons_of_mem _ hq)]
    rw [List.length_cons, List.append_assoc, Nat.add_assoc, Nat.add_comm 1]
    rfl
theorem threads_back {k s : Int} (hk : k ≤ 3) (hs : s ≤ 8) : ∀ (ths : List Thr) (p : Nat) (acc : List Thr), (∀ t ∈ ths, SmI t.1 ∧ ∀ o ∈ t.2, GenOp k s o) → readThreads (ths.flatMap thRows) p acc = .ok (acc ++ ths)
  | [], p, acc, _ => by
    rw [List.append_nil]
    rfl
  | t :: r, p, acc, h => by
    obtain ⟨a, b⟩ := h t List.mem_cons_self
    show readThreads (("thread " ++ numS t.1) :: (t.2.map opRow ++ r.flatMap thRows)) p acc = _
    rw [read_thread (thread_word a) (thread_nums a), ops_back hk hs t.2 _ _ _ _ b, threads_back hk hs r _ _ fun q hq => h q (List.mem_cons_of_mem _ hq), List.append_assoc]
    rfl
theorem fault_words {x : Str} (h : x ∈ faults) : wordOf ("fault " ++ x) = "fault" ∧ tailOf ("fault " ++ x) = [x] := by
  have z : ∀ x ∈ faults, wordOf ("fault " ++ x) = "fault" ∧ tailOf ("fault " ++ x) = [x] := by decide +kernel
  exact z x h
theorem read_back {z : Sett} (g : Gen z) (hf : z.fault = none ∨ ∃ x, z.fault = some x ∧ x ∈ faults) : readM (rowsOf z) = .ok z := by
  have sm := g.small hf
  have hk : (z.classes.length : Int) ≤ 3 := by have := g.cn; omega
  have hs : z.slots ≤ 8 := by have := g.sl; omega
  have ht : ∀ t ∈ z.threads, SmI t.1 ∧ ∀ o ∈ t.2, GenOp z.classes.length z.slots o := fun t ht => ⟨(sm.ti t ht).s, (g.ti t ht).2.2.2⟩
  have h0 : readHeads (rowsOf z) 0 heads = .ok [[z.sockets], z.classes, [z.pages], [z.batch], [z.spare], [z.slots], [z.stops]] := by
    unfold rowsOf
    rw [List.append_assoc]
    exact heads_back sm g.cn.1 _
  have tn := g.tn.1
  have fin : ∀ p, (rowsOf z).drop p = z.threads.flatMap thRows → readFault (rowsOf z) 7 = .ok (z.fault, p) → readM (rowsOf z) = .ok z := fun p e1 e2 => by
    unfold readM
    rw [h0]
    simp only [e2, e1]
    rw [threads_back hk hs z.threads p [] ht]
    rfl
  rcases hf with e | ⟨x, e, hx⟩
  · have e2 : faultRow z = [] := by
      unfold faultRow
      rw [e]
    refine fin 7 ?_ ?_
    · unfold rowsOf
      rw [e2]
      rfl
    · rw [e]
      obtain ⟨t, r, et⟩ : ∃ t r, z.threads = t :: r := by
        cases q : z.threads with
        | nil =>
          rw [q] at tn
          exact absurd tn (by decide)
        | cons t r => exact ⟨t, r, rfl⟩
      have e3 : (rowsOf z)[7]? = some ("thread " ++ numS t.1) := by
        unfold rowsOf
        rw [e2, et]
        rfl
      unfold readFault
      rw [e3]
      have w := thread_word (ht t (by rw [et]; exact List.mem_cons_self)).1
      have n : ¬ ("thread" : Str) = "fault" := by decide +kernel
      simp only [w, if_neg n]
  · have e2 : faultRow z = ["fault " ++ x] := by
      unfold faultRow
      rw [e]
    obtain ⟨w1, w2⟩ := fault_words hx
    refine fin 8 ?_ ?_
    · unfold rowsOf
      rw [e2]
      rfl
    · rw [e]
      have e3 : (rowsOf z)[7]? = some ("fault " ++ x) := by
        unfold rowsOf
        rw [e2]
        rfl
      unfold readFault
      rw [e3]
      simp only [w1, w2, if_pos hx, if_true]
theorem inB_of {v a b : Int} (h1 : a ≤ v) (h2 : v ≤ b) : inB (some v) a b = true := by
  show (decide (a ≤ v) && decide (v ≤ b)) = true
  rw [decide_eq_true h1, decide_eq_true h2]
  rfl
theorem fits_gen {k s : Int} {o : Op} (h : GenOp k s o) (hk : k ≤ 3) (hs : s ≤ 8) : fitsB k s o = true := by
  have i := isOp_gen h hk hs
  unfold fitsB
  rw [i]
  have n1 : ¬ ("free" : Str) = "alloc" := by decide +kernel
  have n2 : ¬ ("adopt" : Str) = "alloc" := by decide +kernel
  have n3 : ¬ ("grow" : Str) = "alloc" := by decide +kernel
  have n4 : ¬ ("large" : Str) = "alloc" := by decide +kernel
  have n5 : ¬ ("drain" : Str) = "alloc" := by decide +kernel
  rcases h with ⟨a, b, rfl, a0, a1, c0, c1⟩ | ⟨b, rfl | rfl | rfl, c0, c1⟩ | ⟨a, b, rfl, a0, a1, c0, c1⟩ | rfl
  · have z : ¬ k ≤ a := by omega
    simp [z, c1]
  · simp [n1, c1]
  · simp [n2, c1]
  · simp [n3, c1]
  · simp [n4, c1]
  · simp [n5]
theorem err_gen {z : Sett} (g : Gen z) : machineErr z = none := by
  have m8 : most8 z.slots = z.slots := by
    unfold most8
    rw [inB_of g.sl.1 (by have := g.sl.2; omega), if_pos rfl]
  have cn := g.cn
  have tn := g.tn
  have c1 : okClasses z.classes = true := by
    unfold okClasses
    rw [decide_eq_true cn.1, decide_eq_true cn.2]
    show z.classes.all _ = true
    exact List.all_eq_true.mpr fun n hn => inB_of (g.ci n hn).1 (g.ci n hn).2
  have c2 : z.threads.all (threadB z.sockets z.classes.length (most8 z.slots)) = true := by
    rw [m8]
    refine List.all_eq_true.mpr fun t ht => ?_
    obtain ⟨a, b, c, d⟩ := g.ti t ht
    unfold threadB
    rw [inB_of a (by omega), decide_eq_true (by omega : t.2.length ≤ 30)]
    show t.2.all _ = true
    exact List.all_eq_true.mpr fun o ho => fits_gen (d o ho) (by omega) (by have := g.sl.2; omega)
  unfold machineErr
  rw [inB_of g.so.1 g.so.2, c1, c2, if_neg (by decide), if_neg (by decide), if_neg (fun n => n ⟨tn.1, by omega⟩), if_neg (by decide)]
  unfold firstBad
  rw [inB_of g.pa.1 (by have := g.pa.2; omega), if_pos rfl]
  unfold firstBad
  rw [inB_of g.ba.1 g.ba.2, if_pos rfl]
  unfold firstBad
  rw [inB_of g.sa.1 g.sa.2, if_pos rfl]
  unfold firstBad
  rw [inB_of g.sl.1 (by have := g.sl.2; omega), if_pos rfl]
  unfold firstBad
  rw [inB_of g.st.1 (by have := g.st.2; omega), if_pos rfl]
  rfl
theorem said_back {z : Sett} (g : Gen z) (hf : z.fault = none ∨ ∃ x, z.fault = some x ∧ x ∈ faults) : saidOf (rowsOf z) = .ok z := by
  unfold saidOf
  rw [read_back g hf]
  simp only [err_gen g]
theorem Gen.shaped {z : Sett} (g : Gen z) (hf : z.fault = none ∨ ∃ x, z.fault = some x ∧ x ∈ faults) : SeqAt.shaped (setD z) = true := said_shaped (said_back g hf)
end Hf
end
section
set_option maxHeartbeats 4000000
/-! D18: the law. -/
namespace Hf
open PySem PySem.Spec PyProof.Rows L2
theorem MachAt.extB {K : Fg} {H H' : Hp} {p x : Addr} {s : Sett} (hp : PoolAt H p) (e : ExtB p H H') (h : MachAt K H x s) : MachAt K H' x s := by
  obtain ⟨dx, t, a, b⟩ := h
  have n : x ≠ p := fun z => by
    obtain ⟨u, v, q⟩ := hp
    rw [z, q] at a
    cases a
  exact ⟨dx, t, e _ _ n a, Tp.mono (hp.tk e) _ _ b⟩
theorem MachAt.ext {K : Fg} {H H' : Hp} {x : Addr} {s : Sett} (e : Ext H H') (h : MachAt K H x s) : MachAt K H' x s := by
  obtain ⟨dx, t, a, b⟩ := h
  exact ⟨dx, t, e _ _ a, Tp.mono (TK.of e) _ _ b⟩
abbrev errNames : List Str := ["sockets", "classes", "threads", "pages", "batch", "spare", "slots", "stops"]
theorem bad_name : ∀ {l : List (Str × Int × Int × Int)} {nm : Str}, firstBad l = some nm → nm ∈ l.map (·.1)
  | [], _, h => by cases h
  | (n, v, a, b) :: r, nm, h => by
    unfold firstBad at h
    split at h
    · exact List.mem_cons_of_mem _ (bad_name h)
    · cases h
      exact List.mem_cons_self
theorem err_name {s : Sett} {nm : Str} (h : machineErr s = some nm) : nm ∈ errNames := by
  unfold machineErr at h
  split at h
  · cases h
    decide +kernel
  split at h
  · cases h
    decide +kernel
  split at h
  · cases h
    decide +kernel
  split at h
  · cases h
    decide +kernel
  · have z := bad_name h
    have z : nm ∈ (["pages", "batch", "spare", "slots", "stops"] : List Str) := z
    exact List.mem_cons_of_mem _ (List.mem_cons_of_mem _ (List.mem_cons_of_mem _ z))
theorem said_name {rows : List Str} {nm : Str} (h : saidOf rows = .mach nm) : PyData.canLay0 (.str nm) = true := by
  unfold saidOf at h
  cases e : readM rows with
  | error n =>
    rw [e] at h
    cases h
  | ok s' =>
    rw [e] at h
    cases e2 : machineErr s' with
    | none =>
      simp only [e2] at h
      cases h
    | some n2 =>
      simp only [e2] at h
      cases h
      have z : ∀ w ∈ errNames, PyData.canLay0 (.str w) = true := by decide +kernel
      exact z _ (err_name e2)
/-- two answers that are the same -/
def Both (K : Fg) (u v : V) (H : Hp) : Prop := (∃ x y s, u = .ref x ∧ v = .ref y ∧ MachAt K H x s ∧ MachAt K H y s ∧ SeqAt.shaped (setD s) = true) ∨
  ∃ x y xs ds, u = .ref x ∧ v = .ref y ∧ H x = some (.lst xs) ∧ H y = some (.lst xs) ∧ TpL H xs ds ∧ SeqAt.shaped (.list ds) = true
def spLaw (K : Fg) : Sp := fun vs H Q _ => ∃ a, ∃ ns : List Int, vs = [.ref a] ∧ ns.length ≤ 63 ∧ SqL K H a (ns.map V.int) ∧ ∀ H', Q (.bl true) H'
section
variable {P : Program} {w : World} {K : Fg} {mg : Str → Option Value} {base : Heap}
theorem scLaw : FnScope ["_law_script", "_law_k", "_law_pool_here", "_law_m", "_law_kind", "_law_rows", "_law_machine_here", "_law_again", "_law_turn", "_law_text_here", "_law_told", "_law_due"] ["_law_script"] (defScope sLaw) := ⟨rfl, rfl, rfl, by decide +kernel, rfl, by decide +kernel, by decide +kernel⟩
theorem f_law (T : Txt K mg w) : FnF L2.CX0 P w K mg base 10 "law" sLaw ["_law_script"] (spLaw K) := by
  refine fnF0_of (i := 43) T rfl scLaw (fun vs H Q E h => ?_) (fun f cdv A outer s H vs Q E hr h => ?_)
  · obtain ⟨a, ns, rfl, _⟩ := h
    rfl
  · obtain ⟨a, ns, rfl, hl, hS, k⟩ := h
    obtain ⟨_, _, EF, EB⟩ := f_MEq (P := P) (base := base) T
    refine ⟨_, (pss_cons (ps_for PassesOwn.never (by rfl) (pi_range1 (by rfl) (fr T "range") (pa_cons (pe_callB (call_max2 (by rfl)) (by rfl) (fr T "max") boot_max (pa_cons pe_int (pa_cons (pe_callB (call_min2 (by rfl)) (by rfl) (fr T "min") boot_min (pa_cons pe_int (pa_cons (pe_callB call_len_seq (by rfl) (fr T "len") boot_len (pa_cons (pv 0) pa_nil)) pa_nil))) pa_nil))) pa_nil)) (pg_name (i := 1) scLaw.nd (by rfl) (Or.inl (by rfl))) (C8.pss_cut (ps_set (i := 2) scLaw.nd (by rfl) (by first | exact Or.inl rfl | exact Or.inr rfl) (C8.pe_c (c_pool T) hr (by decide) (by rfl) (pa_cons (pv 0) (pa_cons (pv 1) pa_nil))))
      (C8.pss_cut (ps_par (i := 3) (j := 4) (by rfl) scLaw.nd (by rfl) (by rfl) (by decide) (by rfl) (by rfl) (pa_cons (C8.pe_c (c_lSett T) hr (by decide) (by rfl) (pa_cons (pv 2) (pa_cons pe_int pa_nil))) (pa_cons (pe_ix ix_list (pe_lst (pa_cons pe_non (pa_cons pe_non (pa_cons pe_str (pa_cons pe_str (pa_cons pe_str pa_nil)))))) (C8.pe_c (c_take T) hr (by decide) (by rfl) (pa_cons (pv 2) (pa_cons pe_int pa_nil))) (fun _ _ => rfl)) pa_nil)) (by rfl))
      (C8.pss_cut (ps_set (i := 5) scLaw.nd (by rfl) (by first | exact Or.inl rfl | exact Or.inr rfl) (C8.pe_c (c_lText T) hr (by decide) (by rfl) (pa_cons (pv 3) (pa_cons (pv 4) pa_nil))))
      (C8.pss_cut (ps_set (i := 6) scLaw.nd (by rfl) (by first | exact Or.inl rfl | exact Or.inr rfl) (C8.pe_c (c_said T) hr (by decide) (by rfl) (pa_cons (pe_join pe_str (pv 5)) (pa_cons pe_int pa_nil))))
      (pss_cons (ps_if (PW.pt (pw_or (pt_not (pt_val (pe_callB (C8.call_isC T.mIns) (by rfl) (fr T "isinstance") boot_isinstance (pa_cons (pv 6) (pa_cons (pe_gl (by rfl) (T.glo "Machine" (by decide +kernel))) pa_nil))))) (pw_or1 (pt_cmpR op_ne (pe_k0 (f_mText T) hr (by decide) (by rfl) T (by decide +kernel) (fun _ _ _ _ _ _ _ => rfl) (pv 6)) (pe_join pe_str (pv 5)) (nomark _))))) (pss_one (ps_ret pe_bl)) pss_nil)
      (C8.pss_cut (ps_set (i := 7) scLaw.nd (by rfl) (by first | exact Or.inl rfl | exact Or.inr rfl) (pe_k0X (f_parse T) hr (by decide) (by rfl) T (by decide +kernel) (fun _ _ _ _ _ _ _ => rfl) (pe_join pe_str (pv 5))))
      (pss_cons (ps_if (PW.pt (pw_or (pt_not (pt_cmpR (op_eqG (rcG_ins EF T.mEq.at_ T.mEq.fn EB L2.pass0) (hr.mono (by decide))) (pv 6) (C8.pe_c (c_said T) hr (by decide) (by rfl) (pa_cons (pe_join pe_str (pv 5)) (pa_cons pe_int pa_nil))) (nomark _))) (pw_or1 (pt_not (pt_cmpR (op_eqG (rcG_ins EF T.mEq.at_ T.mEq.fn EB L2.pass0) (hr.mono (by decide))) (pv 7) (pv 6) (nomark _)))))) (pss_one (ps_ret pe_bl)) pss_nil)
      (pss_one (ps_for PassesOwn.never (by rfl) (pi_range1 (by rfl) (fr T "range") (pa_cons pe_int pa_nil)) (pg_name (i := 8) scLaw.nd (by rfl) (Or.inl (by rfl))) (C8.pss_cut (ps_set (i := 9) scLaw.nd (by rfl) (by first | exact Or.inl rfl | exact Or.inr rfl) (pe_join pe_str (C8.pe_c (c_bent T) hr (by decide) (by rfl) (pa_cons (pv 2) (pa_cons (pv 5) pa_nil)))))
      (C8.pss_cut (ps_par (i := 10) (j := 11) (by rfl) scLaw.nd (by rfl) (by rfl) (by decide) (by rfl) (by rfl) (pa_cons (C8.pe_c (c_said T) hr (by decide) (by rfl) (pa_cons (pv 9) (pa_cons pe_int pa_nil))) (pa_cons (C8.pe_c (c_said T) hr (by decide) (by rfl) (pa_cons (pv 9) (pa_cons pe_int pa_nil))) pa_nil)) (by rfl))
      (pss_one (ps_if (PW.pt (pw_or (pt_cmpR op_ne (pe_callB (CallR.or (C8.call_isC T.mIns) call_isi) (by rfl) (fr T "isinstance") boot_isinstance (pa_cons (pv 10) (pa_cons (pe_gl (by rfl) (T.glo "Machine" (by decide +kernel))) pa_nil))) (pe_callB (CallR.or (C8.call_isC T.mIns) call_isi) (by rfl) (fr T "isinstance") boot_isinstance (pa_cons (pv 11) (pa_cons (pe_gl (by rfl) (T.glo "Machine" (by decide +kernel))) pa_nil))) (nomark _)) (pw_or1 (pt_not (pt_cmpR (OpR.or (op_eqG (rcG_ins EF T.mEq.at_ T.mEq.fn EB L2.pass0) (hr.mono (by decide))) (op_eqD (room_u hr))) (pv 10) (pv 11) (nomark _)))))) (pss_one (ps_ret pe_bl)) pss_nil))))))))))))))
      (pss_one (ps_ret pe_bl))), ?_⟩
    have en := sizeLine_eq
    obtain ⟨N, eN, n1, n8⟩ : ∃ N : Int, (if (if ((ns.map V.int).length : Int) < 8 then ((ns.map V.int).length : Int) else 8) > 1 then (if ((ns.map V.int).length : Int) < 8 then ((ns.map V.int).length : Int) else 8) else 1) = N ∧ 1 ≤ N ∧ N ≤ 8 := ⟨_, rfl, by split <;> omega, by split <;> (try split) <;> omega⟩
    refine ⟨_, rfl, a, _, rfl, .inl hS, _, _, rfl, _, _, rfl, N, congrArg (fun n => [V.int n]) eN, by omega, by omega, ?_⟩
    refine for_range (lo := 0) (n := N.toNat) (fun i σ' H' => ∃ w1 w2 w3 w4 w5 w6 w7 w8 w9 w10 w11, σ' = [some (.ref a), w1, w2, w3, w4, w5, w6, w7, w8, w9, w10, w11] ∧ Ext H H')
      ⟨none, none, none, none, none, none, none, none, none, none, none, rfl, Ext.rfl'⟩ ?_ ?_
    rotate_left
    · rintro σ' H' ⟨w1, w2, w3, w4, w5, w6, w7, w8, w9, w10, w11, rfl, x0⟩
      exact k H'
    rintro i σ' H1 hi ⟨w1, w2, w3, w4, w5, w6, w7, w8, w9, w10, w11, rfl, x0⟩
    have hS1 := hS.ext x0
    -- the pool
    refine ⟨fun σ' H' => ∃ p, σ' = [some (.ref a), some (.int (0 + i)), some (.ref p), w3, w4, w5, w6, w7, w8, w9, w10, w11] ∧ Ext H1 H' ∧ H1 p = none ∧ PoolAt H' p, ?_, ?_⟩
    · exact ⟨_, rfl, _, rfl, a, ns, 0 + (i : Int), rfl, hS1, by omega, by omega, hl, fun H2 p x2 hp2 np => ⟨p, rfl, x2, np, hp2⟩⟩
    clear hS1
    rintro σ' H2 ⟨p, rfl, x2, np, hp2⟩
    -- the machine drawn
    refine ⟨fun σ' H' => ∃ m z, σ' = [some (.ref a), some (.int (0 + i)), some (.ref p), some (.ref m), some (optV z.fault), w5, w6, w7, w8, w9, w10, w11] ∧ Ext H1 H' ∧ PoolAt H' p ∧ MAt H' m z ∧ Gen z ∧ (z.fault = none ∨ ∃ x, z.fault = some x ∧ x ∈ faults), ?_, ?_⟩
    · refine ⟨_, rfl, p, rfl, hp2, fun H3 m z x3 hp3 hm g => ?_⟩
      refine ⟨by show 5 ≤ sizeLine; omega, fun b nb => ?_⟩
      have y4 := Ext.new (o := .lst [.non, .non, .str "take", .str "fill", .str "batches"]) Ext.rfl' nb
      have x4 := ExtB.new (o := .lst [.non, .non, .str "take", .str "fill", .str "batches"]) x3 nb
      have e4 : (upd H3 b (.lst [.non, .non, .str "take", .str "fill", .str "batches"])) b = some (.lst [.non, .non, .str "take", .str "fill", .str "batches"]) := upd_same
      have hp4 := hp3.ext y4
      have hm4 := hm.tk (TK.of y4)
      have nbp := hp3.ne nb
      generalize upd H3 b (.lst [.non, .non, .str "take", .str "fill", .str "batches"]) = H4 at y4 x4 e4 hp4 hm4 ⊢
      refine ⟨_, rfl, p, 5, rfl, hp4, by decide, by decide, fun H5 d x5 hp5 d0 d1 => ?_⟩
      have xx := ExtB.gone x2 np (ExtB.trans x4 x5)
      have hm5 := hm4.tk (hp4.tk x5)
      have e5 := x5 _ _ nbp e4
      have fin : ∀ fo : Option Str, (fo = none ∨ ∃ x, fo = some x ∧ x ∈ faults) → atI [V.non, .non, .str "take", .str "fill", .str "batches"] d = some (optV fo) → ∃ v, atI [V.non, .non, .str "take", .str "fill", .str "batches"] d = some v ∧ ∃ m' z, [some (.ref a), some (.int (0 + i)), some (.ref p), some (.ref m), some v, w5, w6, w7, w8, w9, w10, w11] = [some (.ref a), some (.int (0 + i)), some (.ref p), some (.ref m'), some (optV z.fault), w5, w6, w7, w8, w9, w10, w11] ∧ Ext H1 H5 ∧ PoolAt H5 p ∧ MAt H5 m' z ∧ Gen z ∧ (z.fault = none ∨ ∃ x, z.fault = some x ∧ x ∈ faults) := fun fo hf ev =>
        ⟨_, ev, m, { z with fault := fo }, rfl, xx, hp5, hm5, ⟨g.so, g.cn, g.ci, g.tn, g.ti, g.pa, g.ba, g.sa, g.sl, g.st⟩, hf⟩
      have all : ∃ v, atI [V.non, .non, .str "take", .str "fill", .str "batches"] d = some v ∧ ∃ m' z, [some (.ref a), some (.int (0 + i)), some (.ref p), some (.ref m), some v, w5, w6, w7, w8, w9, w10, w11] = [some (.ref a), some (.int (0 + i)), some (.ref p), some (.ref m'), some (optV z.fault), w5, w6, w7, w8, w9, w10, w11] ∧ Ext H1 H5 ∧ PoolAt H5 p ∧ MAt H5 m' z ∧ Gen z ∧ (z.fault = none ∨ ∃ x, z.fault = some x ∧ x ∈ faults) := by
        have f1 : ("take" : Str) ∈ faults := by decide +kernel
        have f2 : ("fill" : Str) ∈ faults := by decide +kernel
        have f3 : ("batches" : Str) ∈ faults := by decide +kernel
        have c : d = ((0 : Nat) : Int) ∨ d = ((1 : Nat) : Int) ∨ d = ((2 : Nat) : Int) ∨ d = ((3 : Nat) : Int) ∨ d = ((4 : Nat) : Int) := by omega
        rcases c with e | e | e | e | e <;> rw [e] at fin ⊢
        · exact fin none (.inl rfl) (atI_nat (j := 0) rfl)
        · exact fin none (.inl rfl) (atI_nat (j := 1) rfl)
        · exact fin (some "take") (.inr ⟨_, rfl, f1⟩) (atI_nat (j := 2) rfl)
        · exact fin (some "fill") (.inr ⟨_, rfl, f2⟩) (atI_nat (j := 3) rfl)
        · exact fin (some "batches") (.inr ⟨_, rfl, f3⟩) (atI_nat (j := 4) rfl)
      obtain ⟨v, ev, res⟩ := all
      exact ⟨b, _, d, v, rfl, rfl, SqL.of e5, ev, _, _, rfl, res⟩
    clear x2 hp2 H2
    rintro σ' H2 ⟨m, z, rfl, x2, hp2, hm2, g, hf⟩
    have sm := g.small hf
    have rok := g.rows hf
    have rn := rowsOf_num sm
    have r2 : 2 ≤ (rowsOf z).length := by
      unfold rowsOf
      rw [List.length_append, List.length_append]
      have : (headRows z).length = 7 := rfl
      omega
    have rne : rowsOf z ≠ [] := fun e => by
      rw [e] at r2
      exact absurd r2 (by decide)
    have back := said_back g hf
    have shp := g.shaped hf
    have fit : ((rowsOf z).map (·.length)).sum + (rowsOf z).length * nl.length ≤ 16777216 := join_fit (by omega) rok (by decide)
    have len8 : (Txt.join nl (rowsOf z)).length ≤ 80000 := Nat.le_trans (join_small (by omega) rok (by decide)) (by decide)
    have nrep := noRep rne rok
    have spl : Txt.split (Txt.join nl (rowsOf z)) nl = rowsOf z := split_join rne fun x hx => (rok x hx).no
    have say : saidOf (Txt.split (Txt.join nl (rowsOf z)) nl) = .ok z := by
      rw [spl]
      exact back
    -- its rows
    refine ⟨fun σ' H' => ∃ l, σ' = [some (.ref a), some (.int (0 + i)), some (.ref p), some (.ref m), some (optV z.fault), some (.ref l), w6, w7, w8, w9, w10, w11] ∧ Ext H1 H' ∧ PoolAt H' p ∧ H' l = some (.lst ((rowsOf z).map V.str)) ∧ l ≠ p, ?_, ?_⟩
    · exact ⟨_, rfl, _, rfl, m, z, rfl, hm2, sm, fun H3 l x3 hl3 nl3 => ⟨l, rfl, Ext.trans x2 x3, hp2.ext x3, hl3, hp2.ne nl3⟩⟩
    clear x2 hp2 hm2 H2
    rintro σ' H2 ⟨l, rfl, x2, hp2, hl2, nlp⟩
    -- read
    refine ⟨fun σ' H' => ∃ x, σ' = [some (.ref a), some (.int (0 + i)), some (.ref p), some (.ref m), some (optV z.fault), some (.ref l), some (.ref x), w7, w8, w9, w10, w11] ∧ Ext H1 H' ∧ PoolAt H' p ∧ H' l = some (.lst ((rowsOf z).map V.str)) ∧ MachAt K H' x z, ?_, ?_⟩
    · refine ⟨⟨_, rfl⟩, _, rfl, _, l, rowsOf z, rfl, rfl, .inl (SqL.of hl2), fit, _, 0, rfl, len8, nrep, ?_⟩
      rw [say]
      exact fun H3 x x3 hx nx => ⟨x, rfl, Ext.trans x2 x3, hp2.ext x3, x3 _ _ hl2, hx⟩
    clear x2 hp2 hl2 H2
    rintro σ' H2 ⟨x, rfl, x2, hp2, hl2, hx2⟩
    obtain ⟨dx, sx, ox, tx⟩ := id hx2
    refine ⟨_, rfl, x, dx, _, rfl, ox, _, rfl, itF (by decide) ?_⟩
    refine ⟨_, rfl, rfl, x, z, rfl, hx2, sm, fun H3 x3 => ?_⟩
    refine ⟨⟨_, rfl⟩, _, rfl, _, l, rowsOf z, rfl, rfl, .inl (SqL.of (x3 _ _ hl2)), fit, rfl, _, rfl, ?_⟩
    refine itF (by simp) ?_
    have x3' := Ext.trans x2 x3
    have hp3 := hp2.ext x3
    have hl3 := x3 _ _ hl2
    have hx3 := hx2.ext x3
    clear x2 hp2 hl2 hx2 ox tx x3 H2
    -- read again
    refine ⟨fun σ' H' => ∃ y, σ' = [some (.ref a), some (.int (0 + i)), some (.ref p), some (.ref m), some (optV z.fault), some (.ref l), some (.ref x), some (.ref y), w8, w9, w10, w11] ∧ Ext H1 H' ∧ PoolAt H' p ∧ H' l = some (.lst ((rowsOf z).map V.str)) ∧ MachAt K H' x z ∧ MachAt K H' y z, ?_, ?_⟩
    · refine ⟨⟨_, rfl⟩, _, rfl, _, l, rowsOf z, rfl, rfl, .inl (SqL.of hl3), fit, rfl, _, rfl, len8, nrep, ?_⟩
      rw [say]
      exact fun H4 y x4 hy ny => ⟨y, rfl, Ext.trans x3' x4, hp3.ext x4, x4 _ _ hl3, hx3.ext x4, hy⟩
    clear x3' hp3 hl3 hx3 H3
    rintro σ' H2 ⟨y, rfl, x2, hp2, hl2, hx2, hy2⟩
    refine ⟨_, rfl, ⟨_, rfl⟩, _, rfl, _, l, rowsOf z, rfl, rfl, .inl (SqL.of hl2), fit, _, 1, rfl, len8, nrep, ?_⟩
    rw [say]
    intro H3 x' x3 hx' nx'
    have hx3 := hx2.ext x3
    have hy3 := hy2.ext x3
    obtain ⟨dx1, sx1, ox1, _⟩ := id hx3
    obtain ⟨dx2, sx2, ox2, _⟩ := id hx'
    refine ⟨⟨x, x', dx1, dx2, _, _, rfl, rfl, ox1, ox2, z, hx3, hx', shp⟩, fun H4 x4 => ⟨_, rfl, ?_⟩⟩
    refine itF (by decide) ?_
    have hx4 := hx3.ext x4
    have hy4 := hy3.ext x4
    obtain ⟨dx3, sx3, ox3, _⟩ := id hx4
    obtain ⟨dx4, sx4, ox4, _⟩ := id hy4
    refine ⟨_, rfl, _, rfl, ⟨y, x, dx4, dx3, _, _, rfl, rfl, ox4, ox3, z, hy4, hx4, shp⟩, fun H5 x5 => ⟨_, rfl, ?_⟩⟩
    refine itF (by decide) ?_
    have xx := Ext.trans (Ext.trans (Ext.trans x2 x3) x4) x5
    have hp5 := ((hp2.ext x3).ext x4).ext x5
    have hl5 := x5 _ _ (x4 _ _ (x3 _ _ hl2))
    clear hx3 hy3 ox1 ox2 hx4 hy4 ox3 ox4 hx' nx' hx2 hy2 x2 hp2 hl2 x3 x4 x5
    -- the bent texts
    refine ⟨_, rfl, by omega, by omega, ?_⟩
    refine for_range (lo := 0) (n := 8) (fun _ σ' H' => ∃ w8 w9 w10 w11, σ' = [some (.ref a), some (.int (0 + i)), some (.ref p), some (.ref m), some (optV z.fault), some (.ref l), some (.ref x), some (.ref y), w8, w9, w10, w11] ∧ Ext H1 H' ∧ PoolAt H' p ∧ H' l = some (.lst ((rowsOf z).map V.str)))
      ⟨_, _, _, _, rfl, xx, hp5, hl5⟩ ?_ ?_
    rotate_left
    · rintro σ' H' ⟨w8, w9, w10, w11, rfl, x6, _, _⟩
      exact ⟨_, _, _, _, _, _, _, _, _, _, _, rfl, Ext.trans x0 x6⟩
    clear xx hp5 hl5
    rintro j σ' H2 hj ⟨w8, w9, w10, w11, rfl, x2, hp2, hl2⟩
    refine ⟨fun σ' H' => ∃ rows : List Str, σ' = [some (.ref a), some (.int (0 + i)), some (.ref p), some (.ref m), some (optV z.fault), some (.ref l), some (.ref x), some (.ref y), some (.int (0 + j)), some (.str (Txt.join nl rows)), w10, w11] ∧ Ext H1 H' ∧ PoolAt H' p ∧ H' l = some (.lst ((rowsOf z).map V.str)) ∧ rows ≠ [] ∧ rows.length ≤ 34 ∧ ∀ x ∈ rows, RowOk 41 x, ?_, ?_⟩
    · refine ⟨⟨_, rfl⟩, _, rfl, _, rfl, p, l, rowsOf z, rfl, hp2, hl2, nlp, r2, by omega, rok, fun H3 l' rows x3 hp3 hl' n1 n2 n3 => ?_⟩
      exact ⟨_, l', rows, rfl, rfl, .inl (SqL.of hl'), join_fit (by omega) n3 (by decide), rows, rfl, ExtB.gone x2 np x3, hp3, x3 _ _ nlp hl2, n1, n2, n3⟩
    clear x2 hp2 hl2 H2
    rintro σ' H2 ⟨rows, rfl, x2, hp2, hl2, n1, n2, n3⟩
    have len9 : (Txt.join nl rows).length ≤ 80000 := Nat.le_trans (join_small (by omega) n3 (by decide)) (by decide)
    have nrep9 := noRep n1 n3
    -- told and due
    refine ⟨fun σ' H' => ∃ u v, σ' = [some (.ref a), some (.int (0 + i)), some (.ref p), some (.ref m), some (optV z.fault), some (.ref l), some (.ref x), some (.ref y), some (.int (0 + j)), some (.str (Txt.join nl rows)), some u, some v] ∧ Ext H1 H' ∧ PoolAt H' p ∧ H' l = some (.lst ((rowsOf z).map V.str)) ∧ Both K u v H', ?_, ?_⟩
    · refine ⟨_, rfl, _, 0, rfl, len9, nrep9, ?_⟩
      cases e : saidOf (Txt.split (Txt.join nl rows) nl) with
      | line n =>
        intro H3 u x3 hu
        refine ⟨_, rfl, _, 1, rfl, len9, nrep9, ?_⟩
        rw [e]
        intro H4 v x4 hv
        refine ⟨_, _, rfl, _, _, rfl, Ext.trans (Ext.trans x2 x3) x4, (hp2.ext x3).ext x4, x4 _ _ (x3 _ _ hl2), .inr ⟨u, v, _, [.str "line", .int (n : Nat)], rfl, rfl, x4 _ _ hu, hv, .cons (.str _) (.cons (.int _) .nil), ?_⟩⟩
        have q : PyData.canLay0 (.str "line") = true := by decide +kernel
        show (PyData.canLay0 (.str "line") && (true && true) && _) = true
        rw [q]
        rfl
      | mach nm =>
        intro H3 u x3 hu
        refine ⟨_, rfl, _, 1, rfl, len9, nrep9, ?_⟩
        rw [e]
        intro H4 v x4 hv
        refine ⟨_, _, rfl, _, _, rfl, Ext.trans (Ext.trans x2 x3) x4, (hp2.ext x3).ext x4, x4 _ _ (x3 _ _ hl2), .inr ⟨u, v, _, [.str "machine", .str nm], rfl, rfl, x4 _ _ hu, hv, .cons (.str _) (.cons (.str _) .nil), ?_⟩⟩
        have q : PyData.canLay0 (.str "machine") = true := by decide +kernel
        show (PyData.canLay0 (.str "machine") && (PyData.canLay0 (.str nm) && true) && _) = true
        rw [q, said_name e]
        rfl
      | ok s9 =>
        intro H3 u x3 hu _
        refine ⟨_, rfl, _, 1, rfl, len9, nrep9, ?_⟩
        rw [e]
        intro H4 v x4 hv _
        exact ⟨_, _, rfl, _, _, rfl, Ext.trans (Ext.trans x2 x3) x4, (hp2.ext x3).ext x4, x4 _ _ (x3 _ _ hl2), .inl ⟨u, v, s9, rfl, rfl, hu.ext x4, hv, said_shaped e⟩⟩
    clear x2 hp2 hl2 H2
    rintro σ' H2 ⟨u, v, rfl, x2, hp2, hl2, bo⟩
    rcases bo with ⟨x7, y7, s7, rfl, rfl, hx7, hy7, sh7⟩ | ⟨x7, y7, xs, ds, rfl, rfl, hx7, hy7, td, sh7⟩
    · obtain ⟨d1, t1, o1, _⟩ := id hx7
      obtain ⟨d2, t2, o2, _⟩ := id hy7
      refine ⟨_, rfl, .inl ⟨x7, d1, _, rfl, o1, ?_⟩⟩
      refine ⟨_, rfl, .inl ⟨y7, d2, _, rfl, o2, rfl, _, rfl, itF (by decide) ?_⟩⟩
      refine ⟨_, rfl, _, rfl, .inl ⟨⟨x7, y7, d1, d2, _, _, rfl, rfl, o1, o2, s7, hx7, hy7, sh7⟩, fun H3 x3 => ⟨_, rfl, itF (by decide) ?_⟩⟩⟩
      exact ⟨_, _, _, _, rfl, Ext.trans x2 x3, hp2.ext x3, x3 _ _ hl2⟩
    · refine ⟨_, rfl, .inr ⟨_, _, _, _, false, rfl, .own _, .base (.lst hx7), T.mLst, ?_⟩⟩
      refine ⟨_, rfl, .inr ⟨_, _, _, _, false, rfl, .own _, .base (.lst hy7), T.mLst, rfl, _, rfl, itF (by decide) ?_⟩⟩
      refine ⟨_, rfl, _, rfl, .inr ⟨.list ds, .list ds, .lst (SqL.of hx7) (TpL.dp _ _ td), .lst (SqL.of hy7) (TpL.dp _ _ td), sh7, sh7, ?_⟩⟩
      rw [SeqAt.eqv_refl _ (SeqAt.canLay_of_shaped sh7)]
      exact ⟨_, rfl, itF (by decide) ⟨_, _, _, _, rfl, x2, hp2, hl2⟩⟩
end
end Hf
end
section
set_option maxHeartbeats 0
/-! En: the law holds. -/
namespace Hf
open PySem PySem.Spec PyProof.Rows L2
theorem lawAt {P : Program} {w : World} {K : PySem.W.Frag} {h : Heap} {mg : Str → Option Value} {f : Addr} (X : K.In h) (G : h.Ns mainGlobals mg) (hfa : mg ("law" : Str) = some (.ref f)) (c : SaysH facts fns (gA "BOUNDS") tkeys w K) :
    ∃ fd : FuncData, (∀ (s : Shared) (v : Value), BindsTo s fd ⟨[v], []⟩ [("_law_script", v)]) ∧ ∀ base : Heap, K.In base → base.Ns mainGlobals mg → FnOk P w K mg base L2.CX0 10 f fd ["_law_script"] (spLaw K) := by
  have T : Txt K mg w := txt_of X G c
  have e := hfa.symm.trans (T.glo "law" (by decide +kernel))
  cases e
  obtain ⟨fd, F⟩ := T.def_ 43 _ rfl
  have F : FnP K "law" sLaw (gA "law" K) fd := F
  have b := FunD.bindsA (ps := ["_law_script"]) F fun _ _ _ _ _ _ us hl => match us, hl with | [_], _ => rfl
  refine ⟨fd, fun s v => b s [v] rfl, fun base _ _ => ?_⟩
  obtain ⟨fd2, F2, O⟩ := f_law (P := P) (base := base) T
  have e3 : fd2 = fd := by
    obtain ⟨_, _, _, _, _, _, _, _, _, _, _, l1, _⟩ := F.ex
    obtain ⟨_, _, _, _, _, _, _, _, _, _, _, l2, _⟩ := F2.ex
    have z := l1.symm.trans l2
    injection z with z
    injection z with z1 z2 z3 z4
    injection z3 with z5
    exact z5.symm
  rw [← e3]
  exact O
end Hf
open PySem PySem.W PySem.Calls PyProof.Rows
theorem PySem.Challenge.cw_homefrees_k05_whole_texts_of_machines_holds : PySem.Challenge.rw_homefrees_k05_whole_texts_of_machines.Holds := by
  w_on; o_law
  refine HandSHeadRun.head_any (r := OpenLaw.row PySem.Challenge.rw_homefrees_k05_whole_texts_of_machines) (q := view (OpenLaw.row PySem.Challenge.rw_homefrees_k05_whole_texts_of_machines).prog [54]) (H := Hf.hk) (ob := Hf.ob) (M := 6000) (loose := Hf.loose)
    (d := HandSHeadRun.topDef (OpenLaw.row PySem.Challenge.rw_homefrees_k05_whole_texts_of_machines).prog 54) (kwd := []) Hf.ob_eq
    (by kernel_rfl) (fun s => by kernel_rfl) Hf.run (by kernel_rfl) (by kernel_rfl) (by kernel_rfl) (by rfl) (by first | assumption | decide +kernel) (by decide +kernel) ⟨rfl, rfl, rfl, rfl, rfl, by decide +kernel⟩ ?hw ?hc
  case hw => w_witness2
  case hc =>
    refine L2.walk_ofE (l := PySem.Challenge.rw_homefrees_k05_whole_texts_of_machines) (n := 63) (k := 10) (x := "_law_script") (CX := L2.CX0) rfl (by decide) (by kernel_rfl) ⟨rfl, by decide, by decide⟩ ?F (fun _ _ _ _ z => z)
    intro w mg fa h Y G hmg0
    obtain ⟨K, KX, c⟩ := Y
    have hmg : mg ("law" : PySem.Str) = some (.ref fa) := by
      have e : (HandSHeadRun.topDef (OpenLaw.row PySem.Challenge.rw_homefrees_k05_whole_texts_of_machines).prog 54).name = ("law" : PySem.Str) := by kernel_rfl
      rw [← e]
      exact hmg0
    obtain ⟨fd, hb, hF⟩ := Hf.lawAt (P := (PySem.Challenge.rw_homefrees_k05_whole_texts_of_machines).prog) (w := w) KX G hmg c
    exact ⟨K, fd, Hf.spLaw K, KX, hb, fun H a ns hl _ hS => ⟨a, ns, rfl, hl, hS, fun _ => rfl⟩, hF⟩
end
