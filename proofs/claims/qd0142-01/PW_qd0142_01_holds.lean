import PyProof.Rows.All
import Wide.All
import OpenK.AllK
import Wide.FinOn
import PySem.Challenge.RW_qd0142_01
set_option Elab.async false
set_option linter.unusedVariables false
set_option linter.unusedSimpArgs false
set_option linter.constructorNameAsVariable false
set_option maxHeartbeats 1000000
set_option genSizeOf false
section
open PySem
namespace Mine
inductive V where
 | none
 | bool (b : Bool)
 | int (i : Int)
 | str (s : List Nat)
 | tup (vs : List V)
 | il (vs : List V)
 | ref (id : Nat)
 deriving Inhabited
noncomputable abbrev Mem := List (List V)
noncomputable abbrev Loc := List (Option V)
inductive O (α : Type) where
 | ok (a : α) (μ : Mem)
 | exc (μ : Mem)
 | bad
noncomputable def O.bind {α β : Type} (x : O α) (f : α → Mem → O β) : O β := match x with
 | .ok a μ => f a μ
 | .exc μ => .exc μ
 | .bad => .bad
noncomputable def O.lift {α : Type} (x : Option α) (μ : Mem) : O α := match x with
 | some a => .ok a μ
 | Option.none => .bad
inductive F where
 | next (l : Loc) (μ : Mem)
 | brk (l : Loc) (μ : Mem)
 | cont (l : Loc) (μ : Mem)
 | ret (v : V) (μ : Mem)
 | exc (l : Loc) (μ : Mem)
 | bad
inductive Bop where
 | add | sub | mul | mod | pow | xor
inductive Cop where
 | eq | ne | lt | gt | ge | isIn | isNone
inductive Bi where
 | len | chr | ord | str | min
inductive Me where
 | find | lower | strip | partition | join | pop
set_option genInjectivity false
mutual
inductive E where
 | none
 | bool (b : Bool)
 | int (i : Int)
 | str (s : List Nat)
 | loc (i : Nat)
 | gl (i : Nat)
 | bin (op : Bop) (a b : E)
 | neg (a : E)
 | not (a : E)
 | cmp (op : Cop) (a b : E)
 | chain (a b c : E)
 | and (es : Es)
 | or (es : Es)
 | ite (t a b : E)
 | tup (es : Es)
 | il (es : Es)
 | ml (es : Es)
 | idx (a i : E)
 | slice (a lo hi : E)
 | call (f : Nat) (es : Es)
 | bi (b : Bi) (es : Es)
 | me (m : Me) (a : E) (es : Es)
 | inEsc (a : E)
 | getEsc (a : E)
 | closer (a : E)
 | comp (caps : List Nat) (elt it cond : E)
inductive Es where
 | nil
 | cons (e : E) (es : Es)
end
mutual
inductive S where
 | assign (i : Nat) (e : E)
 | assignT (is : List Nat) (e : E)
 | setIdx (l i e : E)
 | aug (i : Nat) (op : Bop) (e : E)
 | expr (e : E)
 | append (l e : E)
 | ite (c : E) (a b : Ss)
 | whl (c : E) (b : Ss)
 | forE (i : Nat) (it : E) (b : Ss)
 | forR (i : Nat) (n : E) (b : Ss)
 | brk
 | cont
 | ret (e : E)
 | raise (e : E)
 | tryS (b : Ss) (i : Nat) (e : E)
inductive Ss where
 | nil
 | cons (s : S) (ss : Ss)
end
set_option genInjectivity true
noncomputable def LIM : Nat := 1048576
noncomputable def escTab : List (Nat × Nat) := [(110, 10), (116, 9), (114, 13), (102, 12), (98, 8), (97, 7), (101, 27)]
noncomputable def closeTab : List (Nat × Nat) := [(40, 41), (91, 93), (123, 125), (60, 62)]
noncomputable def T (s : String) : List Nat := s.toList.map Char.toNat
section
variable {α : Type}
noncomputable def onInt (v : V) (f : Int → Option α) : Option α := match v with | .int i => f i | _ => Option.none
noncomputable def onBool (v : V) (f : Bool → Option α) : Option α := match v with | .bool i => f i | _ => Option.none
noncomputable def onStr (v : V) (f : List Nat → Option α) : Option α := match v with | .str i => f i | _ => Option.none
noncomputable def onIl (v : V) (f : List V → Option α) : Option α := match v with | .il i => f i | _ => Option.none
noncomputable def onRef (v : V) (f : Nat → Option α) : Option α := match v with | .ref i => f i | _ => Option.none
noncomputable def onNone (v : V) (r : Option α) : Option α := match v with | .none => r | _ => Option.none
noncomputable def one (vs : List V) (f : V → Option α) : Option α := match vs with | v :: r => (match r with | [] => f v | _ :: _ => Option.none) | [] => Option.none
noncomputable def two (vs : List V) (f : V → V → Option α) : Option α := match vs with | v :: r => one r (f v) | [] => Option.none
noncomputable def sign (s : List Nat) (f : Nat → Option α) : Option α := match s with | c :: r => (match r with | [] => f c | _ :: _ => Option.none) | [] => Option.none
noncomputable def when (p : Prop) [Decidable p] (a : α) : Option α := if p then some a else Option.none
end
noncomputable def int2 (f : Int → Int → Option V) (a b : V) : Option V := onInt a fun i => onInt b fun j => f i j
noncomputable def intB (f : Int → Int → Bool) (a b : V) : Option Bool := onInt a fun i => onInt b fun j => some (f i j)
noncomputable def addIl (a b : V) : Option V := onIl a fun i => onIl b fun j => when (i.length + j.length ≤ LIM) (.il (i ++ j))
noncomputable def addStr (a b : V) : Option V := onStr a fun i => onStr b fun j => when (i.length + j.length ≤ LIM) (.str (i ++ j))
noncomputable def addInt (a b : V) : Option V := int2 (fun i j => some (.int (i + j))) a b
noncomputable def subInt (a b : V) : Option V := int2 (fun i j => some (.int (i - j))) a b
noncomputable def binV (op : Bop) (a b : V) : Option V := match op with
 | .add => (match a with | .int _ => addInt a b | .str _ => addStr a b | _ => addIl a b)
 | .sub => subInt a b
 | .mul => int2 (fun a b => when (a.natAbs < 2 ^ 40 ∧ b.natAbs < 2 ^ 40) (.int (a * b))) a b
 | .mod => int2 (fun a b => when (0 < b) (.int (a % b))) a b
 | .pow => int2 (fun a b => when (a = 10 ∧ b = 9) (.int 1000000000)) a b
 | .xor => int2 (fun a b => some (.int (Builtin.bitXor a b))) a b
mutual
noncomputable def flat : Nat → Mem → V → Option V
 | 0, _, _ => Option.none
 | n + 1, μ, v => match v with
   | .tup vs => (flatL n μ vs).map V.tup
   | .il vs => (flatL n μ vs).map V.il
   | .ref id => (μ[id]?).bind fun vs => (flatL n μ vs).map V.il
   | v => some v
noncomputable def flatL : Nat → Mem → List V → Option (List V)
 | 0, _, _ => Option.none
 | n + 1, μ, vs => match vs with
   | [] => some []
   | v :: vs => (flat n μ v).bind fun x => (flatL n μ vs).map fun xs => x :: xs
end
noncomputable def listOf (μ : Mem) (v : V) : Option (List V) := match v with
 | .il vs => some vs
 | .ref id => μ[id]?
 | _ => Option.none
noncomputable def itemsOf (μ : Mem) (v : V) : Option (List V) := match v with
 | .str s => some (s.map fun c => .str [c])
 | .il vs => some vs
 | .ref id => μ[id]?
 | _ => Option.none
open Classical in
noncomputable def eqL (μ : Mem) (a b : V) : Option Bool :=
 (listOf μ a).bind fun xs => (listOf μ b).bind fun ys =>
   if xs.length ≠ ys.length then some false
   else if ∃ t, flat 60 μ a = some t ∧ flat 60 μ b = some t then some true else Option.none
noncomputable def eqV (μ : Mem) (a b : V) : Option Bool := match a with
 | .int i => onInt b fun j => some (i == j)
 | .bool i => onBool b fun j => some (i == j)
 | .str i => onStr b fun j => some (i == j)
 | a => eqL μ a b
noncomputable def strIn (a s : List Nat) : Option Bool := match a with
 | [] => some true
 | c :: r => (match r with | [] => some (s.contains c) | _ :: _ => Option.none)
noncomputable def strsOf : List V → Option (List (List Nat))
 | [] => some []
 | v :: r => onStr v fun s => (strsOf r).map (s :: ·)
noncomputable def cmpV (μ : Mem) (op : Cop) (a b : V) : Option Bool := match op with
 | .eq => eqV μ a b
 | .ne => (eqV μ a b).map (!·)
 | .lt => intB (fun a b => decide (a < b)) a b
 | .gt => intB (fun a b => decide (b < a)) a b
 | .ge => intB (fun a b => decide (b ≤ a)) a b
 | .isIn => onStr a fun a => (match b with | .tup vs => (strsOf vs).map fun l => l.contains a | b => onStr b fun b => strIn a b)
 | .isNone => onNone b (match a with | .none => some true | .il _ => some false | .ref _ => some false | _ => Option.none)
noncomputable def leV (a b : V) : Option Bool := onStr a fun a => sign a fun a => onStr b fun b => sign b fun b => some (decide (a ≤ b))
noncomputable def pyAt {α : Type} (l : List α) (i : Int) : Option α :=
 if 0 ≤ i then l[i.toNat]? else if i = -1 then l.getLast? else Option.none
noncomputable def idxV (μ : Mem) (x y : V) : Option V := onInt y fun i => match x with
 | .str s => if 0 ≤ i then (s[i.toNat]?).map fun c => .str [c] else Option.none
 | .tup vs => if 0 ≤ i then vs[i.toNat]? else Option.none
 | .il vs => pyAt vs i
 | .ref id => (μ[id]?).bind fun vs => pyAt vs i
 | _ => Option.none
noncomputable def boundV (d : Nat) (v : V) : Option Nat := match v with
 | .none => some d
 | .int i => when (0 ≤ i) i.toNat
 | _ => Option.none
noncomputable def sliceV (a lo hi : V) : Option V := match a with
 | .str s => (boundV 0 lo).bind fun l => (boundV s.length hi).map fun h => .str ((s.take h).drop l)
 | .il vs => onNone lo (onInt hi fun i => when (0 ≤ i) (.il (vs.take i.toNat)))
 | _ => Option.none
noncomputable def lowerC (c : Nat) : Nat := if 65 ≤ c ∧ c ≤ 90 then c + 32 else c
noncomputable def findC (c : Nat) : List Nat → Nat → Int
 | [], _ => -1
 | x :: r, i => if x = c then (i : Int) else findC c r (i + 1)
noncomputable def stripIn (cs s : List Nat) : List Nat := (Txt.stripChars ⟨s.toArray⟩ ⟨cs.toArray⟩).cps.toList
noncomputable def partAt (c : Nat) : List Nat → Option (List Nat × List Nat)
 | [] => Option.none
 | x :: r => if x = c then some ([], r) else (partAt c r).map fun q => (x :: q.1, q.2)
noncomputable def parted (c : Nat) (s : List Nat) : V := match partAt c s with
 | some q => .tup [.str q.1, .str [c], .str q.2]
 | Option.none => .tup [.str s, .str [], .str []]
noncomputable def digitsOf (n : Nat) : List Nat := (Nat.toDigits 10 n).map Char.toNat
noncomputable def joinV : List V → Option (List Nat)
 | [] => some []
 | v :: r => onStr v fun s => (joinV r).map (s ++ ·)
noncomputable def lenV (μ : Mem) (v : V) : Option V := match v with
 | .str s => some (.int s.length)
 | .il vs => some (.int vs.length)
 | .ref id => (μ[id]?).map fun vs => .int vs.length
 | _ => Option.none
noncomputable def biV (μ : Mem) (b : Bi) (vs : List V) : Option V := match b with
 | .len => one vs (lenV μ)
 | .chr => one vs fun v => onInt v fun i => when (0 ≤ i ∧ i ≤ 1114111) (.str [i.toNat])
 | .ord => one vs fun v => onStr v fun s => sign s fun c => some (.int c)
 | .str => one vs fun v => onInt v fun i => when (0 ≤ i ∧ i < 100) (.str (digitsOf i.toNat))
 | .min => two vs fun x y => int2 (fun a b => some (.int (if b < a then b else a))) x y
noncomputable def findV (s : List Nat) (v : V) (r : List V) : Option V := onStr v fun t => sign t fun c => match r with
 | [] => some (.int (findC c s 0))
 | v :: q => one (v :: q) fun v => onInt v fun i => when (0 ≤ i) (.int (findC c (s.drop i.toNat) i.toNat))
noncomputable def meV (μ : Mem) (m : Me) (x : V) (vs : List V) : Option V := match m with
 | .find => onStr x fun s => (match vs with | v :: r => findV s v r | [] => Option.none)
 | .lower => onStr x fun s => sign s fun c => (match vs with | [] => when (c < 128) (.str [lowerC c]) | _ :: _ => Option.none)
 | .strip => onStr x fun s => one vs fun v => onStr v fun cs => some (.str (stripIn cs s))
 | .partition => onStr x fun s => one vs fun v => onStr v fun t => sign t fun c => some (parted c s)
 | .join => onStr x fun s => (match s with | [] => one vs fun v => ((listOf μ v).bind joinV).bind fun r => when (r.length ≤ LIM) (.str r) | _ :: _ => Option.none)
 | .pop => Option.none
noncomputable def popV (μ : Mem) (v : V) : O V := match v with
 | .ref id => (match μ[id]? with
   | some vs => (match vs.getLast? with
     | some v => .ok v (μ.set id vs.dropLast)
     | Option.none => .bad)
   | Option.none => .bad)
 | _ => .bad
noncomputable def methV (μ : Mem) (m : Me) (v : V) (vs : List V) : O V := match m with
 | .pop => (match vs with | [] => popV μ v | _ :: _ => .bad)
 | m => O.lift (meV μ m v vs) μ
noncomputable def okMe (m : Me) (v : V) : Bool := match m with
 | .pop => (match v with | .ref _ => true | _ => false)
 | _ => (match v with | .str _ => true | _ => false)
noncomputable def escV (v : V) : Option Nat := onStr v fun s => sign s fun c => escTab.lookup c
noncomputable def escIn (s : List Nat) : Bool := match s with
 | c :: r => (match r with | [] => (escTab.lookup c).isSome | _ :: _ => false)
 | [] => false
noncomputable def isEsc (v : V) : Option Bool := onStr v fun s => some (escIn s)
noncomputable def closerV (v : V) : Option V := onStr v fun s => sign s fun c => some (.str [(closeTab.lookup c).getD c])
noncomputable def globTab : List (String × V) := [
 ("CODE_FIGURES", .str (T "0123456789abcdef")),
 ("TOP_CODE", .int 1114111),
 ("SHORT_CASES", .str (T "ul")),
 ("MOST_CASES", .int 40),
 ("MOST_GUARDS", .int 8),
 ("PUNCTUATION", .str (T "&,;!@/\"")),
 ("TOLD_SIGNS", .str (T "`'+|.")),
 ("_law_small", .str (T "abcdefghijklmnopqrstuvwxyz")),
 ("_law_great", .str (T "ABCDEFGHIJKLMNOPQRSTUVWXYZ")),
 ("_law_named", .str (T "_0123456789")),
 ("_law_tails", .il [
   .tup [.str (T "$x[1"), .il [.tup [.str (T "expr"), .str (T "$x")], .tup [.str (T "text"), .str (T "[1")]]],
   .tup [.str (T "$x{it's}"), .il [.tup [.str (T "expr"), .str (T "$x{it's}")]]],
   .tup [.str (T "${x"), .il [.tup [.str (T "text"), .str (T "${x")]]],
   .tup [.str (T "@{x"), .il [.tup [.str (T "text"), .str (T "@{x")]]],
   .tup [.str (T "$x->["), .il [.tup [.str (T "expr"), .str (T "$x")], .tup [.str (T "text"), .str (T "->[")]]],
   .tup [.str (T "$"), .il [.tup [.str (T "text"), .str (T "$")]]],
   .tup [.str (T "@"), .il [.tup [.str (T "text"), .str (T "@")]]],
   .tup [.str (T "$$"), .il [.tup [.str (T "text"), .str (T "$$")]]],
   .tup [.str (T "$#"), .il [.tup [.str (T "text"), .str (T "$#")]]],
   .tup [.str (T "\\"), .il [.tup [.str (T "text"), .str (T "\\")]]],
   .tup [.str (T "\\U$x"), .il [.tup [.str (T "case"), .str (T "U"), .il [.tup [.str (T "expr"), .str (T "$x")]]]]],
   .tup [.str (T "\\Ua\\u"), .il [.tup [.str (T "text"), .str (T "A")]]],
   .tup [.str (T "\\c"), .il [.tup [.str (T "text"), .str (T "c")]]]])]
noncomputable def appendV (μ : Mem) (x v : V) : Option Mem := onRef x fun id => (μ[id]?).bind fun vs => when (vs.length < LIM) (μ.set id (vs ++ [v]))
noncomputable def stays (v : V) (vs : List V) (μ : Mem) : Prop :=
 match v with
 | .ref id => μ[id]? = some vs
 | _ => True
noncomputable def allocV (vs : List V) (μ : Mem) : O V := if vs.length ≤ LIM then .ok (.ref μ.length) (μ ++ [vs]) else .bad
noncomputable def setAll : Loc → List Nat → List V → Option Loc
 | l, [], vs => (match vs with | [] => some l | _ :: _ => Option.none)
 | l, i :: is, vs => (match vs with | v :: vs => setAll (l.set i (some v)) is vs | [] => Option.none)
noncomputable def unpackV (v : V) : Option (List V) := match v with
 | .tup vs => some vs
 | .il vs => some vs
 | _ => Option.none
noncomputable def pyPut (vs : List V) (i : Int) (v : V) : Option (List V) :=
 if 0 ≤ i ∧ i < vs.length then some (vs.set i.toNat v)
 else if i = -1 ∧ 0 < vs.length then some (vs.set (vs.length - 1) v) else Option.none
noncomputable def putV (μ : Mem) (x y v : V) : Option Mem := onRef x fun id => onInt y fun i => (μ[id]?).bind fun vs => (pyPut vs i v).map fun ws => μ.set id ws
noncomputable def augV (op : Bop) (a b : V) : Option V := match op with
 | .add => (match a with | .int _ => addInt a b | _ => addStr a b)
 | .sub => subInt a b
 | _ => Option.none
noncomputable def u0 : Unit := ()
noncomputable def u1 : Unit := u0
noncomputable def u2 : Unit := u1
noncomputable def u3 : Unit := u2
noncomputable def u4 : Unit := u3
noncomputable def u5 : Unit := u4
noncomputable def u6 : Unit := u5
noncomputable def u7 : Unit := u6
noncomputable def u8 : Unit := u7
noncomputable def u9 : Unit := u8
noncomputable def u10 : Unit := u9
noncomputable def u11 : Unit := u10
noncomputable def u12 : Unit := u11
noncomputable def u13 : Unit := u12
noncomputable def u14 : Unit := u13
noncomputable def u15 : Unit := u14
noncomputable def u16 : Unit := u15
noncomputable def u17 : Unit := u16
noncomputable def u18 : Unit := u17
noncomputable def u19 : Unit := u18
noncomputable def u20 : Unit := u19
noncomputable def u21 : Unit := u20
noncomputable def u22 : Unit := u21
noncomputable def u23 : Unit := u22
noncomputable def u24 : Unit := u23
noncomputable def u25 : Unit := u24
noncomputable def u26 : Unit := u25
noncomputable def u27 : Unit := u26
noncomputable def u28 : Unit := u27
noncomputable def u29 : Unit := u28
noncomputable def u30 : Unit := u29
noncomputable def B0 {α β : Type} (f : α → Mem → O β) (x : O α) : O β := (fun (_ : Unit) => match x with | .ok a μ => f a μ | .exc μ => .exc μ | .bad => .bad) u2
noncomputable def B1 {α β : Type} (f : α → Mem → O β) (x : O α) : O β := (fun (_ : Unit) => match x with | .ok a μ => f a μ | .exc μ => .exc μ | .bad => .bad) u12
noncomputable def B2 {α β : Type} (f : α → Mem → O β) (x : O α) : O β := (fun (_ : Unit) => match x with | .ok a μ => f a μ | .exc μ => .exc μ | .bad => .bad) u24
noncomputable def of0 {α : Type} (l : Loc) (k : α → Mem → F) (x : O α) : F := (fun (_ : Unit) => match x with | .ok a μ => k a μ | .exc μ => .exc l μ | .bad => .bad) u2
noncomputable def of1 {α : Type} (l : Loc) (k : α → Mem → F) (x : O α) : F := (fun (_ : Unit) => match x with | .ok a μ => k a μ | .exc μ => .exc l μ | .bad => .bad) u12
noncomputable def of2 {α : Type} (l : Loc) (k : α → Mem → F) (x : O α) : F := (fun (_ : Unit) => match x with | .ok a μ => k a μ | .exc μ => .exc l μ | .bad => .bad) u24
noncomputable def BX {α β : Type} (f : α → Mem → O β) (x : O α) : O β := (fun (_ : Unit) => match x with | .ok a μ => f a μ | _ => .bad) u24
noncomputable def compB (x y : O Unit) (v : V) : O Unit := match v with | .bool b => (match b with | true => x | false => y) | _ => .bad
noncomputable def boolK (x y : O V) (v : V) : O V := match v with | .bool b => (match b with | true => x | false => y) | _ => .bad
noncomputable def boolF (x y : F) (v : V) : F := match v with | .bool b => (match b with | true => x | false => y) | _ => .bad
noncomputable def chainK (x y : O V) (r : Option Bool) : O V := match r with | some b => (match b with | true => x | false => y) | Option.none => .bad
noncomputable def seqK (k : Loc → Mem → F) (r : F) : F := (fun (_ : Unit) => match r with | .next l μ => k l μ | r => r) u24
noncomputable def finK (r : F) : O V := (fun (_ : Unit) => match r with | .ret v μ => .ok v μ | .next _ μ => .ok .none μ | .exc _ μ => .exc μ | _ => .bad) u24
noncomputable def whK (k : Mem → F) (l : Loc) (r : O V) : F := (fun (_ : Unit) => match r with | .ok v μ => boolF (k μ) (.next l μ) v | .exc μ => .exc l μ | .bad => .bad) u24
noncomputable def bodyK (k : Loc → Mem → F) (r : F) : F := (fun (_ : Unit) => match r with | .next l μ => k l μ | .cont l μ => k l μ | .brk l μ => .next l μ | r => r) u24
noncomputable def negK (v : V) (μ : Mem) : O V := match v with | .int i => .ok (.int (-i)) μ | _ => .bad
noncomputable def notK (v : V) (μ : Mem) : O V := match v with | .bool b => .ok (.bool (!b)) μ | _ => .bad
noncomputable def optF {α : Type} (k : α → F) (r : Option α) : F := match r with | some a => k a | Option.none => .bad
noncomputable def optO {α β : Type} (k : α → O β) (r : Option α) : O β := match r with | some a => k a | Option.none => .bad
noncomputable def raiseK (v : V) (l : Loc) (μ : Mem) : F := match v with | .str _ => .exc l μ | _ => .bad
noncomputable def rangeK (v : V) (k : Int → F) : F := match v with | .int n => k n | _ => .bad
open Classical in
noncomputable def onlyF (p : Prop) (x : F) : F := if p then x else .bad
open Classical in
noncomputable def onlyO {α : Type} (p : Prop) (x : O α) : O α := if p then x else .bad
noncomputable def turnW (c : Loc → Mem → O V) (b : Loc → Mem → F) (k : Loc → Mem → F) (l : Loc) (μ : Mem) : F := whK (fun μ₁ => bodyK k (b l μ₁)) l (c l μ)
noncomputable def iterW (c : Loc → Mem → O V) (b : Loc → Mem → F) : Nat → Loc → Mem → F
 | 0, _, _ => .bad
 | n + 1, l, μ => turnW c b (iterW c b n) l μ
open Classical in
noncomputable def loopW (c : Loc → Mem → O V) (b : Loc → Mem → F) (l : Loc) (μ : Mem) : F :=
 if h : ∃ n, iterW c b n l μ ≠ .bad then iterW c b h.choose l μ else .bad
noncomputable def forL (i : Nat) (b : Loc → Mem → F) (stay : Mem → Prop) : List V → Loc → Mem → F
 | [], l, μ => .next l μ
 | v :: vs, l, μ => bodyK (fun l₂ μ₂ => onlyF (stay μ₂) (forL i b stay vs l₂ μ₂)) (b (l.set i (some v)) μ)
noncomputable def compL (elt cond : V → Mem → O V) (stay : Mem → Prop) (id : Nat) : List V → Mem → O Unit
 | [], μ => .ok () μ
 | v :: vs, μ => BX (fun t μ₁ => compB (BX (fun x μ₂ => optO (fun μ₃ => onlyO (stay μ₃) (compL elt cond stay id vs μ₃)) (appendV μ₂ (.ref id) x)) (elt v μ₁)) (onlyO (stay μ₁) (compL elt cond stay id vs μ₁)) t) (cond v μ)
noncomputable abbrev OK := Nat → List V → Mem → O V
noncomputable abbrev SemE := Loc → Mem → O V
noncomputable abbrev SemEs := Loc → Mem → O (List V)
noncomputable abbrev SemF := Loc → Mem → F
structure EsD where
 vs : SemEs
 an : SemE
 or : SemE
noncomputable def binK2 (op : Bop) (x : V) (y : V) (μ : Mem) : O V := O.lift (binV op x y) μ
noncomputable def binK (op : Bop) (g : SemE) (l : Loc) (x : V) (μ : Mem) : O V := B1 (binK2 op x) (g l μ)
noncomputable def cmpK2 (op : Cop) (x : V) (y : V) (μ : Mem) : O V := O.lift ((cmpV μ op x y).map V.bool) μ
noncomputable def cmpK (op : Cop) (g : SemE) (l : Loc) (x : V) (μ : Mem) : O V := B1 (cmpK2 op x) (g l μ)
noncomputable def chK3 (y : V) (z : V) (μ : Mem) : O V := O.lift ((leV y z).map V.bool) μ
noncomputable def chK2 (h : SemE) (l : Loc) (x : V) (y : V) (μ : Mem) : O V := chainK (B0 (chK3 y) (h l μ)) (.ok (.bool false) μ) (leV x y)
noncomputable def chK (g h : SemE) (l : Loc) (x : V) (μ : Mem) : O V := B1 (chK2 h l x) (g l μ)
noncomputable def iteK (f g : SemE) (l : Loc) (c : V) (μ : Mem) : O V := boolK (f l μ) (g l μ) c
noncomputable def tupK  (vs : List V) (μ : Mem) : O V := .ok (.tup vs) μ
noncomputable def ilK  (vs : List V) (μ : Mem) : O V := .ok (.il vs) μ
noncomputable def idxK2 (x : V) (y : V) (μ : Mem) : O V := O.lift (idxV μ x y) μ
noncomputable def idxK (g : SemE) (l : Loc) (x : V) (μ : Mem) : O V := B1 (idxK2 x) (g l μ)
noncomputable def slK3 (x y : V) (z : V) (μ : Mem) : O V := O.lift (sliceV x y z) μ
noncomputable def slK2 (h : SemE) (l : Loc) (x : V) (y : V) (μ : Mem) : O V := B0 (slK3 x y) (h l μ)
noncomputable def slK (g h : SemE) (l : Loc) (x : V) (μ : Mem) : O V := B1 (slK2 h l x) (g l μ)
noncomputable def biK (b : Bi) (vs : List V) (μ : Mem) : O V := O.lift (biV μ b vs) μ
noncomputable def meK2 (m : Me) (x : V) (vs : List V) (μ : Mem) : O V := methV μ m x vs
noncomputable def meK (m : Me) (g : SemEs) (l : Loc) (x : V) (μ : Mem) : O V := if okMe m x then B1 (meK2 m x) (g l μ) else .bad
noncomputable def inEscK  (x : V) (μ : Mem) : O V := O.lift ((isEsc x).map V.bool) μ
noncomputable def getEscK  (x : V) (μ : Mem) : O V := O.lift ((escV x).map fun c => V.str [c]) μ
noncomputable def closerK  (x : V) (μ : Mem) : O V := O.lift (closerV x) μ
noncomputable def consK2 (v : V) (vs : List V) (μ : Mem) : O (List V) := .ok (v :: vs) μ
noncomputable def consK (g : SemEs) (l : Loc) (v : V) (μ : Mem) : O (List V) := B1 (consK2 v) (g l μ)
noncomputable def andK (g : SemE) (l : Loc) (v : V) (μ : Mem) : O V := boolK (g l μ) (.ok (.bool false) μ) v
noncomputable def orK (g : SemE) (l : Loc) (v : V) (μ : Mem) : O V := boolK (.ok (.bool true) μ) (g l μ) v
noncomputable def compK (caps : List Nat) (fe fc : SemE) (l : Loc) (v : V) (μ₁ : Mem) : O V := optO (fun vs =>
 B1 (fun _ μ₂ => .ok (.ref μ₁.length) μ₂) (compL (fun x μ' => fe (some x :: caps.map fun c => (l[c]?).join) μ') (fun x μ' => fc (some x :: caps.map fun c => (l[c]?).join) μ') (stays v vs) μ₁.length vs (μ₁ ++ [[]]))) (itemsOf μ₁ v)
noncomputable def asK (l : Loc) (i : Nat) (v : V) (μ : Mem) : F := .next (l.set i (some v)) μ
noncomputable def nextK (μ : Mem) (l : Loc) : F := .next l μ
noncomputable def asTK2 (l : Loc) (is : List Nat) (μ : Mem) (vs : List V) : F := optF (nextK μ) (setAll l is vs)
noncomputable def asTK (l : Loc) (is : List Nat) (v : V) (μ : Mem) : F := optF (asTK2 l is μ) (unpackV v)
noncomputable def siK3 (l : Loc) (v x : V) (y : V) (μ : Mem) : F := optF (F.next l) (putV μ x y v)
noncomputable def siK2 (g : SemE) (l : Loc) (v : V) (x : V) (μ : Mem) : F := of0 l (siK3 l v x) (g l μ)
noncomputable def siK (f g : SemE) (l : Loc) (v : V) (μ : Mem) : F := of1 l (siK2 g l v) (f l μ)
noncomputable def augK3 (l : Loc) (i : Nat) (μ : Mem) (new : V) : F := .next (l.set i (some new)) μ
noncomputable def augK2 (l : Loc) (i : Nat) (op : Bop) (old : V) (v : V) (μ : Mem) : F := optF (augK3 l i μ) (augV op old v)
noncomputable def augK (l : Loc) (i : Nat) (op : Bop) (g : SemE) (μ : Mem) (old : V) : F := of1 l (augK2 l i op old) (g l μ)
noncomputable def exK (l : Loc) (v : V) (μ : Mem) : F := .next l μ
noncomputable def apK2 (l : Loc) (x : V) (v : V) (μ : Mem) : F := optF (F.next l) (appendV μ x v)
noncomputable def apK (g : SemE) (l : Loc) (x : V) (μ : Mem) : F := if okMe .pop x then of1 l (apK2 l x) (g l μ) else .bad
noncomputable def sitK (a b : SemF) (l : Loc) (v : V) (μ : Mem) : F := boolF (a l μ) (b l μ) v
noncomputable def raK (l : Loc) (v : V) (μ : Mem) : F := raiseK v l μ
noncomputable def forK2 (i : Nat) (b : SemF) (l : Loc) (v : V) (μ : Mem) (vs : List V) : F := forL i b (stays v vs) vs l μ
noncomputable def forK (i : Nat) (b : SemF) (l : Loc) (v : V) (μ : Mem) : F := optF (forK2 i b l v μ) (itemsOf μ v)
noncomputable def rngK2 (i : Nat) (b : SemF) (l : Loc) (μ : Mem) (n : Int) : F := if 0 ≤ n ∧ n < 1000000 then forL i b (fun _ => True) ((List.range n.toNat).map fun k => V.int (k : Nat)) l μ else .bad
noncomputable def rngK (i : Nat) (b : SemF) (l : Loc) (v : V) (μ : Mem) : F := rangeK v (rngK2 i b l μ)
noncomputable def tryK2 (i : Nat) (l : Loc) (r : O V) : F := match r with
 | .ok v μ => .next (l.set i (some v)) μ
 | _ => .bad
noncomputable def tryK (i : Nat) (g : SemE) (r : F) : F := match r with
 | .exc l μ => tryK2 i l (g l μ)
 | r => r
noncomputable def xE (Φ : OK) (e : E) : SemE := @E.rec (fun _ => SemE) (fun _ => EsD)
 (fun _ μ => .ok .none μ)
 (fun b _ μ => .ok (.bool b) μ)
 (fun i _ μ => .ok (.int i) μ)
 (fun s _ μ => .ok (.str s) μ)
 (fun i l μ => O.lift (l[i]?).join μ)
 (fun i _ μ => O.lift ((globTab[i]?).map (·.2)) μ)
 (fun op _ _ f g l μ => B2 (binK op g l) (f l μ))
 (fun _ f l μ => B2 negK (f l μ))
 (fun _ f l μ => B2 notK (f l μ))
 (fun op _ _ f g l μ => B2 (cmpK op g l) (f l μ))
 (fun _ _ _ f g h l μ => B2 (chK g h l) (f l μ))
 (fun _ d => d.an)
 (fun _ d => d.or)
 (fun _ _ _ t f g l μ => B2 (iteK f g l) (t l μ))
 (fun _ d l μ => B2 tupK (d.vs l μ))
 (fun _ d l μ => B2 ilK (d.vs l μ))
 (fun _ d l μ => B2 allocV (d.vs l μ))
 (fun _ _ f g l μ => B2 (idxK g l) (f l μ))
 (fun _ _ _ f g h l μ => B2 (slK g h l) (f l μ))
 (fun n _ d l μ => B2 (Φ n) (d.vs l μ))
 (fun b _ d l μ => B2 (biK b) (d.vs l μ))
 (fun m _ _ f d l μ => B2 (meK m d.vs l) (f l μ))
 (fun _ f l μ => B2 inEscK (f l μ))
 (fun _ f l μ => B2 getEscK (f l μ))
 (fun _ f l μ => B2 closerK (f l μ))
 (fun caps _ _ _ fe fi fc l μ => B2 (compK caps fe fc l) (fi l μ))
 ⟨fun _ μ => .ok [] μ, fun _ μ => .ok (.bool true) μ, fun _ μ => .ok (.bool false) μ⟩
 (fun _ _ f d => ⟨fun l μ => B2 (consK d.vs l) (f l μ), fun l μ => B2 (andK d.an l) (f l μ), fun l μ => B2 (orK d.or l) (f l μ)⟩) e
noncomputable def xD (Φ : OK) (es : Es) : EsD := @Es.rec (fun _ => SemE) (fun _ => EsD)
 (fun _ μ => .ok .none μ)
 (fun b _ μ => .ok (.bool b) μ)
 (fun i _ μ => .ok (.int i) μ)
 (fun s _ μ => .ok (.str s) μ)
 (fun i l μ => O.lift (l[i]?).join μ)
 (fun i _ μ => O.lift ((globTab[i]?).map (·.2)) μ)
 (fun op _ _ f g l μ => B2 (binK op g l) (f l μ))
 (fun _ f l μ => B2 negK (f l μ))
 (fun _ f l μ => B2 notK (f l μ))
 (fun op _ _ f g l μ => B2 (cmpK op g l) (f l μ))
 (fun _ _ _ f g h l μ => B2 (chK g h l) (f l μ))
 (fun _ d => d.an)
 (fun _ d => d.or)
 (fun _ _ _ t f g l μ => B2 (iteK f g l) (t l μ))
 (fun _ d l μ => B2 tupK (d.vs l μ))
 (fun _ d l μ => B2 ilK (d.vs l μ))
 (fun _ d l μ => B2 allocV (d.vs l μ))
 (fun _ _ f g l μ => B2 (idxK g l) (f l μ))
 (fun _ _ _ f g h l μ => B2 (slK g h l) (f l μ))
 (fun n _ d l μ => B2 (Φ n) (d.vs l μ))
 (fun b _ d l μ => B2 (biK b) (d.vs l μ))
 (fun m _ _ f d l μ => B2 (meK m d.vs l) (f l μ))
 (fun _ f l μ => B2 inEscK (f l μ))
 (fun _ f l μ => B2 getEscK (f l μ))
 (fun _ f l μ => B2 closerK (f l μ))
 (fun caps _ _ _ fe fi fc l μ => B2 (compK caps fe fc l) (fi l μ))
 ⟨fun _ μ => .ok [] μ, fun _ μ => .ok (.bool true) μ, fun _ μ => .ok (.bool false) μ⟩
 (fun _ _ f d => ⟨fun l μ => B2 (consK d.vs l) (f l μ), fun l μ => B2 (andK d.an l) (f l μ), fun l μ => B2 (orK d.or l) (f l μ)⟩) es
noncomputable def xEs (Φ : OK) (es : Es) : SemEs := (xD Φ es).vs
noncomputable def xAnd (Φ : OK) (es : Es) : SemE := (xD Φ es).an
noncomputable def xOr (Φ : OK) (es : Es) : SemE := (xD Φ es).or
noncomputable def xS (Φ : OK) (s : S) : SemF := @S.rec (fun _ => SemF) (fun _ => SemF)
 (fun i e l μ => of2 l (asK l i) (xE Φ e l μ))
 (fun is e l μ => of2 l (asTK l is) (xE Φ e l μ))
 (fun a i e l μ => of2 l (siK (xE Φ a) (xE Φ i) l) (xE Φ e l μ))
 (fun i op e l μ => optF (augK l i op (xE Φ e) μ) (l[i]?).join)
 (fun e l μ => of2 l (exK l) (xE Φ e l μ))
 (fun a e l μ => of2 l (apK (xE Φ e) l) (xE Φ a l μ))
 (fun c _ _ a b l μ => of2 l (sitK a b l) (xE Φ c l μ))
 (fun c _ b l μ => loopW (xE Φ c) b l μ)
 (fun i it _ b l μ => of2 l (forK i b l) (xE Φ it l μ))
 (fun i n _ b l μ => of2 l (rngK i b l) (xE Φ n l μ))
 (fun l μ => .brk l μ)
 (fun l μ => .cont l μ)
 (fun e l μ => of2 l F.ret (xE Φ e l μ))
 (fun e l μ => of2 l (raK l) (xE Φ e l μ))
 (fun _ i e b l μ => tryK i (xE Φ e) (b l μ))
 (fun l μ => .next l μ)
 (fun _ _ s ss l μ => seqK ss (s l μ)) s
noncomputable def xSs (Φ : OK) (ss : Ss) : SemF := @Ss.rec (fun _ => SemF) (fun _ => SemF)
 (fun i e l μ => of2 l (asK l i) (xE Φ e l μ))
 (fun is e l μ => of2 l (asTK l is) (xE Φ e l μ))
 (fun a i e l μ => of2 l (siK (xE Φ a) (xE Φ i) l) (xE Φ e l μ))
 (fun i op e l μ => optF (augK l i op (xE Φ e) μ) (l[i]?).join)
 (fun e l μ => of2 l (exK l) (xE Φ e l μ))
 (fun a e l μ => of2 l (apK (xE Φ e) l) (xE Φ a l μ))
 (fun c _ _ a b l μ => of2 l (sitK a b l) (xE Φ c l μ))
 (fun c _ b l μ => loopW (xE Φ c) b l μ)
 (fun i it _ b l μ => of2 l (forK i b l) (xE Φ it l μ))
 (fun i n _ b l μ => of2 l (rngK i b l) (xE Φ n l μ))
 (fun l μ => .brk l μ)
 (fun l μ => .cont l μ)
 (fun e l μ => of2 l F.ret (xE Φ e l μ))
 (fun e l μ => of2 l (raK l) (xE Φ e l μ))
 (fun _ i e b l μ => tryK i (xE Φ e) (b l μ))
 (fun l μ => .next l μ)
 (fun _ _ s ss l μ => seqK ss (s l μ)) ss
section
variable {Φ : OK} {l : Loc} {μ : Mem}
theorem e_loc (i : Nat) : xE Φ (.loc i) l μ = O.lift (l[i]?).join μ := rfl
theorem e_gl (i : Nat) : xE Φ (.gl i) l μ = O.lift ((globTab[i]?).map (·.2)) μ := rfl
@[simp] theorem e_none  : xE Φ .none l μ = .ok .none μ := rfl
@[simp] theorem e_bool (b : Bool) : xE Φ (.bool b) l μ = .ok (.bool b) μ := rfl
@[simp] theorem e_int (i : Int) : xE Φ (.int i) l μ = .ok (.int i) μ := rfl
@[simp] theorem e_str (s : List Nat) : xE Φ (.str s) l μ = .ok (.str s) μ := rfl
@[simp] theorem e_bin (op : Bop) (a b : E) : xE Φ (.bin op a b) l μ = B2 (binK op (xE Φ b) l) (xE Φ a l μ) := rfl
@[simp] theorem e_neg (a : E) : xE Φ (.neg a) l μ = B2 negK (xE Φ a l μ) := rfl
@[simp] theorem e_not (a : E) : xE Φ (.not a) l μ = B2 notK (xE Φ a l μ) := rfl
@[simp] theorem e_cmp (op : Cop) (a b : E) : xE Φ (.cmp op a b) l μ = B2 (cmpK op (xE Φ b) l) (xE Φ a l μ) := rfl
@[simp] theorem e_chain (a b c : E) : xE Φ (.chain a b c) l μ = B2 (chK (xE Φ b) (xE Φ c) l) (xE Φ a l μ) := rfl
@[simp] theorem e_and (es : Es) : xE Φ (.and es) l μ = xAnd Φ es l μ := rfl
@[simp] theorem e_or (es : Es) : xE Φ (.or es) l μ = xOr Φ es l μ := rfl
@[simp] theorem e_ite (t a b : E) : xE Φ (.ite t a b) l μ = B2 (iteK (xE Φ a) (xE Φ b) l) (xE Φ t l μ) := rfl
@[simp] theorem e_tup (es : Es) : xE Φ (.tup es) l μ = B2 tupK (xEs Φ es l μ) := rfl
@[simp] theorem e_il (es : Es) : xE Φ (.il es) l μ = B2 ilK (xEs Φ es l μ) := rfl
@[simp] theorem e_ml (es : Es) : xE Φ (.ml es) l μ = B2 allocV (xEs Φ es l μ) := rfl
@[simp] theorem e_idx (a i : E) : xE Φ (.idx a i) l μ = B2 (idxK (xE Φ i) l) (xE Φ a l μ) := rfl
@[simp] theorem e_slice (a b c : E) : xE Φ (.slice a b c) l μ = B2 (slK (xE Φ b) (xE Φ c) l) (xE Φ a l μ) := rfl
@[simp] theorem e_call (f : Nat) (es : Es) : xE Φ (.call f es) l μ = B2 (Φ f) (xEs Φ es l μ) := rfl
@[simp] theorem e_bi (b : Bi) (es : Es) : xE Φ (.bi b es) l μ = B2 (biK b) (xEs Φ es l μ) := rfl
@[simp] theorem e_me (m : Me) (a : E) (es : Es) : xE Φ (.me m a es) l μ = B2 (meK m (xEs Φ es) l) (xE Φ a l μ) := rfl
@[simp] theorem e_inEsc (a : E) : xE Φ (.inEsc a) l μ = B2 inEscK (xE Φ a l μ) := rfl
@[simp] theorem e_getEsc (a : E) : xE Φ (.getEsc a) l μ = B2 getEscK (xE Φ a l μ) := rfl
@[simp] theorem e_closer (a : E) : xE Φ (.closer a) l μ = B2 closerK (xE Φ a l μ) := rfl
theorem e_comp (caps : List Nat) (a b c : E) : xE Φ (.comp caps a b c) l μ = B2 (compK caps (xE Φ a) (xE Φ c) l) (xE Φ b l μ) := rfl
@[simp] theorem es_nil  : xEs Φ .nil l μ = .ok [] μ := rfl
@[simp] theorem es_cons (e : E) (es : Es) : xEs Φ (.cons e es) l μ = B2 (consK (xEs Φ es) l) (xE Φ e l μ) := rfl
@[simp] theorem ea_nil  : xAnd Φ .nil l μ = .ok (.bool true) μ := rfl
@[simp] theorem ea_cons (e : E) (es : Es) : xAnd Φ (.cons e es) l μ = B2 (andK (xAnd Φ es) l) (xE Φ e l μ) := rfl
@[simp] theorem eo_nil  : xOr Φ .nil l μ = .ok (.bool false) μ := rfl
@[simp] theorem eo_cons (e : E) (es : Es) : xOr Φ (.cons e es) l μ = B2 (orK (xOr Φ es) l) (xE Φ e l μ) := rfl
@[simp] theorem s_assign (i : Nat) (e : E) : xS Φ (.assign i e) l μ = of2 l (asK l i) (xE Φ e l μ) := rfl
@[simp] theorem s_assignT (is : List Nat) (e : E) : xS Φ (.assignT is e) l μ = of2 l (asTK l is) (xE Φ e l μ) := rfl
@[simp] theorem s_setIdx (a i e : E) : xS Φ (.setIdx a i e) l μ = of2 l (siK (xE Φ a) (xE Φ i) l) (xE Φ e l μ) := rfl
@[simp] theorem s_aug (i : Nat) (op : Bop) (e : E) : xS Φ (.aug i op e) l μ = optF (augK l i op (xE Φ e) μ) (l[i]?).join := rfl
@[simp] theorem s_expr (e : E) : xS Φ (.expr e) l μ = of2 l (exK l) (xE Φ e l μ) := rfl
@[simp] theorem s_append (a e : E) : xS Φ (.append a e) l μ = of2 l (apK (xE Φ e) l) (xE Φ a l μ) := rfl
@[simp] theorem s_ite (c : E) (a b : Ss) : xS Φ (.ite c a b) l μ = of2 l (sitK (xSs Φ a) (xSs Φ b) l) (xE Φ c l μ) := rfl
theorem s_whl (c : E) (b : Ss) : xS Φ (.whl c b) l μ = loopW (xE Φ c) (xSs Φ b) l μ := rfl
theorem s_forE (i : Nat) (it : E) (b : Ss) : xS Φ (.forE i it b) l μ = of2 l (forK i (xSs Φ b) l) (xE Φ it l μ) := rfl
theorem s_forR (i : Nat) (n : E) (b : Ss) : xS Φ (.forR i n b) l μ = of2 l (rngK i (xSs Φ b) l) (xE Φ n l μ) := rfl
@[simp] theorem s_brk  : xS Φ .brk l μ = .brk l μ := rfl
@[simp] theorem s_cont  : xS Φ .cont l μ = .cont l μ := rfl
@[simp] theorem s_ret (e : E) : xS Φ (.ret e) l μ = of2 l F.ret (xE Φ e l μ) := rfl
@[simp] theorem s_raise (e : E) : xS Φ (.raise e) l μ = of2 l (raK l) (xE Φ e l μ) := rfl
theorem s_try (b : Ss) (i : Nat) (e : E) : xS Φ (.tryS b i e) l μ = tryK i (xE Φ e) (xSs Φ b l μ) := rfl
@[simp] theorem ss_nil  : xSs Φ .nil l μ = .next l μ := rfl
@[simp] theorem ss_cons (s : S) (ss : Ss) : xSs Φ (.cons s ss) l μ = seqK (xSs Φ ss) (xS Φ s l μ) := rfl
end
structure Fn where
 name : String
 np : Nat
 names : List String
 body : Ss
noncomputable def locs0 (fn : Fn) (args : List V) : Loc := args.map some ++ List.replicate (fn.names.length - fn.np) Option.none
noncomputable def runFn (Φ : OK) (fn : Fn) (args : List V) (μ : Mem) : O V := if args.length = fn.np then finK (xSs Φ fn.body (locs0 fn args) μ) else .bad
noncomputable def evCall (tab : List Fn) : Nat → OK
 | 0, _, _, _ => .bad
 | d + 1, f, args, μ => match tab[f]? with
   | some fn => runFn (evCall tab d) fn args μ
   | Option.none => .bad
end Mine
end
section
open PySem
namespace Mine
noncomputable def f_closer_of : Fn where
 name := "closer_of"
 np := 1
 names := ["opening"]
 body := (.cons
 (.ret (.closer (.loc 0))) .nil)
noncomputable def f_digits_value_b1 : Ss := (.cons
 (.assign 6 (.me .find (.gl 0) (.cons (.me .lower (.idx (.loc 0) (.loc 5)) .nil) .nil))) (.cons
 (.ite (.or (.cons (.cmp .lt (.loc 6) (.int 0)) (.cons (.cmp .ge (.loc 6) (.loc 3)) .nil))) (.cons
 .brk .nil) .nil) (.cons
 (.assign 4 (.bi .min (.cons (.bin .add (.bin .mul (.loc 4) (.loc 3)) (.loc 6)) (.cons (.bin .add (.gl 1) (.int 1)) .nil)))) (.cons
 (.aug 5 .add (.int 1)) .nil))))
noncomputable def f_digits_value : Fn where
 name := "digits_value"
 np := 4
 names := ["text", "at", "most", "base", "value", "end", "digit"]
 body := (.cons
 (.assign 4 (.int 0)) (.cons
 (.assign 5 (.loc 1)) (.cons
 (.whl (.and (.cons (.cmp .lt (.loc 5) (.bi .len (.cons (.loc 0) .nil))) (.cons (.cmp .lt (.loc 5) (.bin .add (.loc 1) (.loc 2))) .nil))) f_digits_value_b1) (.cons
 (.ret (.tup (.cons (.loc 4) (.cons (.loc 5) .nil)))) .nil))))
noncomputable def f_coded_sign : Fn where
 name := "coded_sign"
 np := 1
 names := ["code"]
 body := (.cons
 (.ite (.cmp .gt (.loc 0) (.gl 1)) (.cons
 (.raise (.str [99, 111, 100, 101, 32, 112, 111, 105, 110, 116, 32, 116, 111, 111, 32, 103, 114, 101, 97, 116])) .nil) .nil) (.cons
 (.ret (.bi .chr (.cons (.loc 0) .nil))) .nil))
noncomputable def f_braced_code : Fn where
 name := "braced_code"
 np := 3
 names := ["text", "at", "base", "end", "value", "behind"]
 body := (.cons
 (.assign 3 (.me .find (.loc 0) (.cons (.str [125]) (.cons (.loc 1) .nil)))) (.cons
 (.ite (.cmp .lt (.loc 3) (.int 0)) (.cons
 (.raise (.str [77, 105, 115, 115, 105, 110, 103, 32, 114, 105, 103, 104, 116, 32, 98, 114, 97, 99, 101])) .nil) .nil) (.cons
 (.assignT [4, 5] (.call 1 (.cons (.slice (.loc 0) .none (.loc 3)) (.cons (.bin .add (.loc 1) (.int 1)) (.cons (.loc 3) (.cons (.loc 2) .nil)))))) (.cons
 (.ret (.tup (.cons (.call 2 (.cons (.loc 4) .nil)) (.cons (.bin .add (.loc 3) (.int 1)) .nil)))) .nil))))
noncomputable def f_escape_at : Fn where
 name := "escape_at"
 np := 2
 names := ["text", "at", "sign", "value", "end"]
 body := (.cons
 (.assign 2 (.slice (.loc 0) (.bin .add (.loc 1) (.int 1)) (.bin .add (.loc 1) (.int 2)))) (.cons
 (.ite (.cmp .eq (.loc 2) (.str [])) (.cons
 (.ret (.tup (.cons (.str [92]) (.cons (.bin .add (.loc 1) (.int 1)) .nil)))) .nil) .nil) (.cons
 (.ite (.inEsc (.loc 2)) (.cons
 (.ret (.tup (.cons (.getEsc (.loc 2)) (.cons (.bin .add (.loc 1) (.int 2)) .nil)))) .nil) .nil) (.cons
 (.ite (.cmp .isIn (.loc 2) (.str [48, 49, 50, 51, 52, 53, 54, 55])) (.cons
 (.assignT [3, 4] (.call 1 (.cons (.loc 0) (.cons (.bin .add (.loc 1) (.int 1)) (.cons (.int 3) (.cons (.int 8) .nil)))))) (.cons
 (.ret (.tup (.cons (.bi .chr (.cons (.loc 3) .nil)) (.cons (.loc 4) .nil)))) .nil)) .nil) (.cons
 (.ite (.and (.cons (.cmp .eq (.loc 2) (.str [120])) (.cons (.cmp .eq (.slice (.loc 0) (.bin .add (.loc 1) (.int 2)) (.bin .add (.loc 1) (.int 3))) (.str [123])) .nil))) (.cons
 (.ret (.call 3 (.cons (.loc 0) (.cons (.bin .add (.loc 1) (.int 2)) (.cons (.int 16) .nil))))) .nil) .nil) (.cons
 (.ite (.and (.cons (.cmp .eq (.loc 2) (.str [111])) (.cons (.cmp .eq (.slice (.loc 0) (.bin .add (.loc 1) (.int 2)) (.bin .add (.loc 1) (.int 3))) (.str [123])) .nil))) (.cons
 (.ret (.call 3 (.cons (.loc 0) (.cons (.bin .add (.loc 1) (.int 2)) (.cons (.int 8) .nil))))) .nil) .nil) (.cons
 (.ite (.cmp .eq (.loc 2) (.str [120])) (.cons
 (.assignT [3, 4] (.call 1 (.cons (.loc 0) (.cons (.bin .add (.loc 1) (.int 2)) (.cons (.int 2) (.cons (.int 16) .nil)))))) (.cons
 (.ret (.tup (.cons (.bi .chr (.cons (.loc 3) .nil)) (.cons (.loc 4) .nil)))) .nil)) .nil) (.cons
 (.ite (.and (.cons (.cmp .eq (.loc 2) (.str [78])) (.cons (.cmp .eq (.slice (.loc 0) (.bin .add (.loc 1) (.int 2)) (.bin .add (.loc 1) (.int 5))) (.str [123, 85, 43])) .nil))) (.cons
 (.ret (.call 3 (.cons (.loc 0) (.cons (.bin .add (.loc 1) (.int 4)) (.cons (.int 16) .nil))))) .nil) .nil) (.cons
 (.ite (.and (.cons (.cmp .eq (.loc 2) (.str [78])) (.cons (.cmp .eq (.slice (.loc 0) (.bin .add (.loc 1) (.int 2)) (.bin .add (.loc 1) (.int 3))) (.str [123])) .nil))) (.cons
 (.raise (.str [83, 105, 103, 110, 115, 32, 98, 121, 32, 116, 104, 101, 105, 114, 32, 110, 97, 109, 101, 115, 32, 97, 114, 101, 32, 108, 101, 102, 116, 32, 111, 117, 116])) .nil) .nil) (.cons
 (.ite (.and (.cons (.cmp .eq (.loc 2) (.str [99])) (.cons (.cmp .ne (.slice (.loc 0) (.bin .add (.loc 1) (.int 2)) (.bin .add (.loc 1) (.int 3))) (.str [])) .nil))) (.cons
 (.ret (.tup (.cons (.bi .chr (.cons (.bin .xor (.bi .ord (.cons (.call 5 (.cons (.idx (.loc 0) (.bin .add (.loc 1) (.int 2))) .nil)) .nil)) (.int 64)) .nil)) (.cons (.bin .add (.loc 1) (.int 3)) .nil)))) .nil) .nil) (.cons
 (.ret (.tup (.cons (.loc 2) (.cons (.bin .add (.loc 1) (.int 2)) .nil)))) .nil)))))))))))
noncomputable def f_great_letter : Fn where
 name := "great_letter"
 np := 1
 names := ["sign"]
 body := (.cons
 (.ite (.chain (.str [97]) (.loc 0) (.str [122])) (.cons
 (.ret (.bi .chr (.cons (.bin .sub (.bi .ord (.cons (.loc 0) .nil)) (.int 32)) .nil))) .nil) .nil) (.cons
 (.ret (.loc 0)) .nil))
noncomputable def f_small_letter : Fn where
 name := "small_letter"
 np := 1
 names := ["sign"]
 body := (.cons
 (.ite (.chain (.str [65]) (.loc 0) (.str [90])) (.cons
 (.ret (.bi .chr (.cons (.bin .add (.bi .ord (.cons (.loc 0) .nil)) (.int 32)) .nil))) .nil) .nil) (.cons
 (.ret (.loc 0)) .nil))
noncomputable def f_is_plain_word_sign : Fn where
 name := "is_plain_word_sign"
 np := 1
 names := ["sign"]
 body := (.cons
 (.ret (.or (.cons (.chain (.str [97]) (.loc 0) (.str [122])) (.cons (.chain (.str [65]) (.loc 0) (.str [90])) (.cons (.chain (.str [48]) (.loc 0) (.str [57])) (.cons (.cmp .eq (.loc 0) (.str [95])) .nil)))))) .nil)
noncomputable def f_cased_text_b1 : Ss := (.cons
 (.ite (.cmp .eq (.loc 0) (.str [85])) (.cons
 (.aug 2 .add (.call 5 (.cons (.loc 3) .nil))) .nil) (.cons
 (.ite (.cmp .eq (.loc 0) (.str [81])) (.cons
 (.ite (.and (.cons (.not (.call 7 (.cons (.loc 3) .nil))) (.cons (.cmp .lt (.bi .ord (.cons (.loc 3) .nil)) (.int 128)) .nil))) (.cons
 (.aug 2 .add (.str [92])) .nil) .nil) (.cons
 (.aug 2 .add (.loc 3)) .nil)) (.cons
 (.aug 2 .add (.call 6 (.cons (.loc 3) .nil))) .nil)) .nil)) .nil)
noncomputable def f_cased_text : Fn where
 name := "cased_text"
 np := 2
 names := ["mark", "text", "out", "sign"]
 body := (.cons
 (.ite (.cmp .eq (.loc 0) (.str [117])) (.cons
 (.ret (.bin .add (.call 8 (.cons (.str [85]) (.cons (.slice (.loc 1) .none (.int 1)) .nil))) (.slice (.loc 1) (.int 1) .none))) .nil) .nil) (.cons
 (.ite (.cmp .eq (.loc 0) (.str [108])) (.cons
 (.ret (.bin .add (.call 8 (.cons (.str [76]) (.cons (.slice (.loc 1) .none (.int 1)) .nil))) (.slice (.loc 1) (.int 1) .none))) .nil) .nil) (.cons
 (.assign 2 (.str [])) (.cons
 (.forE 3 (.loc 1) f_cased_text_b1) (.cons
 (.ret (.loc 2)) .nil)))))
noncomputable def f_is_name_start : Fn where
 name := "is_name_start"
 np := 1
 names := ["sign"]
 body := (.cons
 (.ret (.and (.cons (.cmp .ne (.loc 0) (.str [])) (.cons (.call 7 (.cons (.loc 0) .nil)) (.cons (.not (.chain (.str [48]) (.loc 0) (.str [57]))) .nil))))) .nil)
noncomputable def f_variable_name_end_b1 : Ss := (.cons
 (.ite (.call 7 (.cons (.idx (.loc 0) (.loc 2)) .nil)) (.cons
 (.aug 2 .add (.int 1)) .nil) (.cons
 (.ite (.and (.cons (.cmp .eq (.slice (.loc 0) (.loc 2) (.bin .add (.loc 2) (.int 2))) (.str [58, 58])) (.cons (.call 9 (.cons (.slice (.loc 0) (.bin .add (.loc 2) (.int 2)) (.bin .add (.loc 2) (.int 3))) .nil)) .nil))) (.cons
 (.aug 2 .add (.int 2)) .nil) (.cons
 .brk .nil)) .nil)) .nil)
noncomputable def f_variable_name_end : Fn where
 name := "variable_name_end"
 np := 2
 names := ["text", "at", "end"]
 body := (.cons
 (.assign 2 (.loc 1)) (.cons
 (.ite (.and (.cons (.cmp .eq (.slice (.loc 0) (.loc 1) (.bin .add (.loc 1) (.int 2))) (.str [58, 58])) (.cons (.call 9 (.cons (.slice (.loc 0) (.bin .add (.loc 1) (.int 2)) (.bin .add (.loc 1) (.int 3))) .nil)) .nil))) (.cons
 (.assign 2 (.bin .add (.loc 1) (.int 2))) .nil) .nil) (.cons
 (.ite (.not (.call 9 (.cons (.slice (.loc 0) (.loc 2) (.bin .add (.loc 2) (.int 1))) .nil))) (.cons
 (.ret (.loc 1)) .nil) .nil) (.cons
 (.whl (.cmp .lt (.loc 2) (.bi .len (.cons (.loc 0) .nil))) f_variable_name_end_b1) (.cons
 (.ret (.loc 2)) .nil)))))
noncomputable def f_quote_skip_b1 : Ss := (.cons
 (.ite (.cmp .eq (.idx (.loc 0) (.loc 2)) (.str [92])) (.cons
 (.aug 2 .add (.int 1)) .nil) (.cons
 (.ite (.cmp .eq (.idx (.loc 0) (.loc 2)) (.idx (.loc 0) (.loc 1))) (.cons
 (.ret (.bin .add (.loc 2) (.int 1))) .nil) .nil) .nil)) (.cons
 (.aug 2 .add (.int 1)) .nil))
noncomputable def f_quote_skip : Fn where
 name := "quote_skip"
 np := 2
 names := ["text", "at", "end"]
 body := (.cons
 (.assign 2 (.bin .add (.loc 1) (.int 1))) (.cons
 (.whl (.cmp .lt (.loc 2) (.bi .len (.cons (.loc 0) .nil))) f_quote_skip_b1) (.cons
 (.ret (.bin .add (.loc 1) (.int 1))) .nil)))
noncomputable def f_subscript_end_b1 : Ss := (.cons
 (.assign 6 (.idx (.loc 0) (.loc 5))) (.cons
 (.ite (.cmp .eq (.loc 6) (.str [92])) (.cons
 (.aug 5 .add (.int 2)) (.cons
 .cont .nil)) .nil) (.cons
 (.ite (.or (.cons (.cmp .eq (.loc 6) (.str [39])) (.cons (.cmp .eq (.loc 6) (.str [34])) .nil))) (.cons
 (.assign 5 (.call 11 (.cons (.loc 0) (.cons (.loc 5) .nil)))) (.cons
 .cont .nil)) .nil) (.cons
 (.ite (.cmp .eq (.loc 6) (.loc 2)) (.cons
 (.aug 4 .add (.int 1)) .nil) (.cons
 (.ite (.cmp .eq (.loc 6) (.loc 3)) (.cons
 (.aug 4 .sub (.int 1)) (.cons
 (.ite (.cmp .eq (.loc 4) (.int 0)) (.cons
 (.ret (.ite (.cmp .ne (.me .strip (.slice (.loc 0) (.bin .add (.loc 1) (.int 1)) (.loc 5)) (.cons (.str [32, 9, 10]) .nil)) (.str [])) (.bin .add (.loc 5) (.int 1)) (.neg (.int 1)))) .nil) .nil) .nil)) .nil) .nil)) (.cons
 (.aug 5 .add (.int 1)) .nil)))))
noncomputable def f_subscript_end : Fn where
 name := "subscript_end"
 np := 2
 names := ["text", "at", "opening", "closing", "depth", "end", "sign"]
 body := (.cons
 (.assign 2 (.idx (.loc 0) (.loc 1))) (.cons
 (.assign 3 (.call 0 (.cons (.loc 2) .nil))) (.cons
 (.assign 4 (.int 0)) (.cons
 (.assign 5 (.loc 1)) (.cons
 (.whl (.cmp .lt (.loc 5) (.bi .len (.cons (.loc 0) .nil))) f_subscript_end_b1) (.cons
 (.ret (.neg (.int 1))) .nil))))))
noncomputable def f_digits_only_b1 : Ss := (.cons
 (.ite (.not (.chain (.str [48]) (.loc 1) (.str [57]))) (.cons
 (.ret (.bool false)) .nil) .nil) .nil)
noncomputable def f_digits_only : Fn where
 name := "digits_only"
 np := 1
 names := ["text", "sign"]
 body := (.cons
 (.ite (.cmp .eq (.loc 0) (.str [])) (.cons
 (.ret (.bool false)) .nil) .nil) (.cons
 (.forE 1 (.loc 0) f_digits_only_b1) (.cons
 (.ret (.bool true)) .nil)))
noncomputable def f_is_pattern_part : Fn where
 name := "is_pattern_part"
 np := 2
 names := ["inner", "opening", "low", "comma", "high"]
 body := (.cons
 (.ite (.cmp .eq (.loc 1) (.str [123])) (.cons
 (.assignT [2, 3, 4] (.me .partition (.loc 0) (.cons (.str [44]) .nil))) (.cons
 (.ret (.and (.cons (.call 13 (.cons (.loc 2) .nil)) (.cons (.or (.cons (.cmp .eq (.loc 4) (.str [])) (.cons (.call 13 (.cons (.loc 4) .nil)) .nil))) .nil)))) .nil)) .nil) (.cons
 (.ite (.cmp .eq (.slice (.loc 0) .none (.int 1)) (.str [45])) (.cons
 (.assign 0 (.slice (.loc 0) (.int 1) .none)) .nil) .nil) (.cons
 (.ite (.cmp .eq (.slice (.loc 0) .none (.int 1)) (.str [36])) (.cons
 (.ret (.bool false)) .nil) .nil) (.cons
 (.ret (.or (.cons (.not (.call 13 (.cons (.loc 0) .nil))) (.cons (.cmp .gt (.bi .len (.cons (.loc 0) .nil)) (.int 2)) .nil)))) .nil))))
noncomputable def f_one_subscript : Fn where
 name := "one_subscript"
 np := 3
 names := ["text", "at", "is_pattern", "end"]
 body := (.cons
 (.ite (.and (.cons (.cmp .ne (.slice (.loc 0) (.loc 1) (.bin .add (.loc 1) (.int 1))) (.str [91])) (.cons (.cmp .ne (.slice (.loc 0) (.loc 1) (.bin .add (.loc 1) (.int 1))) (.str [123])) .nil))) (.cons
 (.ret (.loc 1)) .nil) .nil) (.cons
 (.assign 3 (.call 12 (.cons (.loc 0) (.cons (.loc 1) .nil)))) (.cons
 (.ite (.or (.cons (.cmp .lt (.loc 3) (.int 0)) (.cons (.and (.cons (.loc 2) (.cons (.call 14 (.cons (.slice (.loc 0) (.bin .add (.loc 1) (.int 1)) (.bin .sub (.loc 3) (.int 1))) (.cons (.idx (.loc 0) (.loc 1)) .nil))) .nil))) .nil))) (.cons
 (.ret (.loc 1)) .nil) .nil) (.cons
 (.ret (.loc 3)) .nil))))
noncomputable def f_all_subscripts_b1 : Ss := (.cons
 (.assign 4 (.loc 3)) (.cons
 (.ite (.cmp .eq (.slice (.loc 0) (.loc 3) (.bin .add (.loc 3) (.int 2))) (.str [45, 62])) (.cons
 (.assign 4 (.bin .add (.loc 3) (.int 2))) .nil) .nil) (.cons
 (.assign 5 (.call 15 (.cons (.loc 0) (.cons (.loc 4) (.cons (.and (.cons (.loc 2) (.cons (.cmp .eq (.loc 4) (.loc 3)) .nil))) .nil))))) (.cons
 (.ite (.cmp .eq (.loc 5) (.loc 4)) (.cons
 (.ret (.loc 3)) .nil) .nil) (.cons
 (.assign 3 (.loc 5)) .nil)))))
noncomputable def f_all_subscripts : Fn where
 name := "all_subscripts"
 np := 3
 names := ["text", "at", "is_pattern", "end", "begin", "behind"]
 body := (.cons
 (.assign 3 (.loc 1)) (.cons
 (.whl (.bool true) f_all_subscripts_b1) .nil))
noncomputable def f_base_end_b1 : Ss := (.cons
 (.aug 2 .add (.int 1)) .nil)
noncomputable def f_base_end : Fn where
 name := "base_end"
 np := 2
 names := ["text", "at", "end", "behind"]
 body := (.cons
 (.assign 2 (.loc 1)) (.cons
 (.whl (.cmp .eq (.slice (.loc 0) (.loc 2) (.bin .add (.loc 2) (.int 1))) (.str [36])) f_base_end_b1) (.cons
 (.ite (.cmp .eq (.slice (.loc 0) (.loc 2) (.bin .add (.loc 2) (.int 1))) (.str [123])) (.cons
 (.assign 3 (.call 12 (.cons (.loc 0) (.cons (.loc 2) .nil)))) (.cons
 (.ret (.ite (.cmp .lt (.loc 3) (.int 0)) (.loc 1) (.loc 3))) .nil)) .nil) (.cons
 (.assign 3 (.call 10 (.cons (.loc 0) (.cons (.loc 2) .nil)))) (.cons
 (.ret (.ite (.cmp .eq (.loc 3) (.loc 2)) (.loc 1) (.loc 3))) .nil)))))
noncomputable def f_is_braced_name : Fn where
 name := "is_braced_name"
 np := 3
 names := ["text", "at", "end", "inner"]
 body := (.cons
 (.assign 3 (.me .strip (.slice (.loc 0) (.bin .add (.loc 1) (.int 1)) (.bin .sub (.loc 2) (.int 1))) (.cons (.str [32, 9, 10]) .nil))) (.cons
 (.ite (.or (.cons (.cmp .ne (.idx (.loc 0) (.loc 1)) (.str [123])) (.cons (.cmp .eq (.loc 3) (.str [])) .nil))) (.cons
 (.ret (.bool false)) .nil) .nil) (.cons
 (.ret (.or (.cons (.call 13 (.cons (.loc 3) .nil)) (.cons (.cmp .eq (.call 10 (.cons (.loc 3) (.cons (.int 0) .nil))) (.bi .len (.cons (.loc 3) .nil))) .nil)))) .nil)))
noncomputable def f_scalar_end_b1 : Ss := (.cons
 (.aug 4 .add (.int 1)) .nil)
noncomputable def f_scalar_end : Fn where
 name := "scalar_end"
 np := 3
 names := ["text", "at", "is_pattern", "sign", "end", "is_over"]
 body := (.cons
 (.assign 3 (.slice (.loc 0) (.bin .add (.loc 1) (.int 1)) (.bin .add (.loc 1) (.int 2)))) (.cons
 (.ite (.or (.cons (.cmp .eq (.loc 3) (.str [])) (.cons (.and (.cons (.loc 2) (.cons (.cmp .isIn (.loc 3) (.str [41, 124])) .nil))) .nil))) (.cons
 (.ret (.loc 1)) .nil) .nil) (.cons
 (.ite (.cmp .eq (.loc 3) (.str [35])) (.cons
 (.assign 4 (.call 17 (.cons (.loc 0) (.cons (.bin .add (.loc 1) (.int 2)) .nil)))) (.cons
 (.ret (.ite (.cmp .eq (.loc 4) (.bin .add (.loc 1) (.int 2))) (.loc 1) (.loc 4))) .nil)) .nil) (.cons
 (.ite (.chain (.str [48]) (.loc 3) (.str [57])) (.cons
 (.assign 4 (.bin .add (.loc 1) (.int 2))) (.cons
 (.whl (.and (.cons (.cmp .ne (.loc 3) (.str [48])) (.cons (.cmp .lt (.loc 4) (.bi .len (.cons (.loc 0) .nil))) (.cons (.chain (.str [48]) (.idx (.loc 0) (.loc 4)) (.str [57])) .nil)))) f_scalar_end_b1) (.cons
 (.ret (.call 16 (.cons (.loc 0) (.cons (.loc 4) (.cons (.loc 2) .nil))))) .nil))) .nil) (.cons
 (.assign 4 (.call 17 (.cons (.loc 0) (.cons (.bin .add (.loc 1) (.int 1)) .nil)))) (.cons
 (.ite (.cmp .gt (.loc 4) (.bin .add (.loc 1) (.int 1))) (.cons
 (.assign 5 (.and (.cons (.call 18 (.cons (.loc 0) (.cons (.bin .add (.loc 1) (.int 1)) (.cons (.loc 4) .nil)))) (.cons (.cmp .ne (.slice (.loc 0) (.loc 4) (.bin .add (.loc 4) (.int 2))) (.str [45, 62])) .nil)))) (.cons
 (.ret (.ite (.loc 5) (.loc 4) (.call 16 (.cons (.loc 0) (.cons (.loc 4) (.cons (.loc 2) .nil)))))) .nil)) .nil) (.cons
 (.ite (.or (.cons (.cmp .isIn (.loc 3) (.gl 5)) (.cons (.and (.cons (.cmp .isIn (.loc 3) (.gl 6)) (.cons (.not (.loc 2)) (.cons (.cmp .ne (.slice (.loc 0) (.bin .add (.loc 1) (.int 1)) (.bin .add (.loc 1) (.int 3))) (.str [43, 91])) .nil)))) .nil))) (.cons
 (.ret (.call 16 (.cons (.loc 0) (.cons (.bin .add (.loc 1) (.int 2)) (.cons (.loc 2) .nil))))) .nil) .nil) (.cons
 (.ret (.loc 1)) .nil))))))))
noncomputable def f_array_end : Fn where
 name := "array_end"
 np := 3
 names := ["text", "at", "is_pattern", "end"]
 body := (.cons
 (.assign 3 (.call 17 (.cons (.loc 0) (.cons (.bin .add (.loc 1) (.int 1)) .nil)))) (.cons
 (.ite (.cmp .eq (.loc 3) (.bin .add (.loc 1) (.int 1))) (.cons
 (.ret (.loc 1)) .nil) .nil) (.cons
 (.ret (.ite (.call 18 (.cons (.loc 0) (.cons (.bin .add (.loc 1) (.int 1)) (.cons (.loc 3) .nil)))) (.loc 3) (.call 15 (.cons (.loc 0) (.cons (.loc 3) (.cons (.loc 2) .nil)))))) .nil)))
noncomputable def f_add_part : Fn where
 name := "add_part"
 np := 2
 names := ["stack", "part", "parts"]
 body := (.cons
 (.assign 2 (.idx (.idx (.loc 0) (.bin .sub (.bi .len (.cons (.loc 0) .nil)) (.int 1))) (.int 1))) (.cons
 (.ite (.and (.cons (.cmp .eq (.idx (.loc 1) (.int 0)) (.str [116, 101, 120, 116])) (.cons (.cmp .gt (.bi .len (.cons (.loc 2) .nil)) (.int 0)) (.cons (.cmp .eq (.idx (.idx (.loc 2) (.bin .sub (.bi .len (.cons (.loc 2) .nil)) (.int 1))) (.int 0)) (.str [116, 101, 120, 116])) .nil)))) (.cons
 (.setIdx (.loc 2) (.bin .sub (.bi .len (.cons (.loc 2) .nil)) (.int 1)) (.tup (.cons (.str [116, 101, 120, 116]) (.cons (.bin .add (.idx (.idx (.loc 2) (.bin .sub (.bi .len (.cons (.loc 2) .nil)) (.int 1))) (.int 1)) (.idx (.loc 1) (.int 1))) .nil)))) .nil) (.cons
 (.append (.loc 2) (.loc 1)) .nil)) (.cons
 (.ite (.and (.cons (.cmp .eq (.idx (.loc 1) (.int 0)) (.str [116, 101, 120, 116])) (.cons (.cmp .isIn (.idx (.idx (.loc 0) (.bin .sub (.bi .len (.cons (.loc 0) .nil)) (.int 1))) (.int 0)) (.gl 2)) (.cons (.cmp .ne (.idx (.idx (.loc 0) (.bin .sub (.bi .len (.cons (.loc 0) .nil)) (.int 1))) (.int 0)) (.str [])) .nil)))) (.cons
 (.expr (.call 22 (.cons (.loc 0) .nil))) .nil) .nil) .nil)))
noncomputable def f_close_case : Fn where
 name := "close_case"
 np := 1
 names := ["stack", "mark", "parts"]
 body := (.cons
 (.assignT [1, 2] (.me .pop (.loc 0) .nil)) (.cons
 (.ite (.and (.cons (.cmp .eq (.bi .len (.cons (.loc 2) .nil)) (.int 1)) (.cons (.cmp .eq (.idx (.idx (.loc 2) (.int 0)) (.int 0)) (.str [116, 101, 120, 116])) .nil))) (.cons
 (.expr (.call 21 (.cons (.loc 0) (.cons (.tup (.cons (.str [116, 101, 120, 116]) (.cons (.call 8 (.cons (.loc 1) (.cons (.idx (.idx (.loc 2) (.int 0)) (.int 1)) .nil))) .nil))) .nil)))) .nil) (.cons
 (.ite (.cmp .gt (.bi .len (.cons (.loc 2) .nil)) (.int 0)) (.cons
 (.expr (.call 21 (.cons (.loc 0) (.cons (.tup (.cons (.str [99, 97, 115, 101]) (.cons (.loc 1) (.cons (.loc 2) .nil)))) .nil)))) .nil) .nil) .nil)) .nil))
noncomputable def f_end_case_b1 : Ss := (.cons
 (.expr (.call 22 (.cons (.loc 0) .nil))) .nil)
noncomputable def f_end_case : Fn where
 name := "end_case"
 np := 1
 names := ["stack"]
 body := (.cons
 (.whl (.and (.cons (.cmp .gt (.bi .len (.cons (.loc 0) .nil)) (.int 1)) (.cons (.cmp .isIn (.idx (.idx (.loc 0) (.bin .sub (.bi .len (.cons (.loc 0) .nil)) (.int 1))) (.int 0)) (.gl 2)) .nil))) f_end_case_b1) (.cons
 (.ite (.cmp .gt (.bi .len (.cons (.loc 0) .nil)) (.int 1)) (.cons
 (.expr (.call 22 (.cons (.loc 0) .nil))) .nil) .nil) .nil))
noncomputable def f_end_letters_b1 : Ss := (.cons
 (.expr (.call 22 (.cons (.loc 0) .nil))) .nil)
noncomputable def f_end_letters : Fn where
 name := "end_letters"
 np := 1
 names := ["stack"]
 body := (.cons
 (.whl (.cmp .ne (.comp [] (.loc 0) (.loc 0) (.cmp .isIn (.idx (.loc 0) (.int 0)) (.tup (.cons (.str [85]) (.cons (.str [76]) (.cons (.str [70]) .nil)))))) (.il .nil)) f_end_letters_b1) .nil)
noncomputable def f_begin_case : Fn where
 name := "begin_case"
 np := 2
 names := ["stack", "mark"]
 body := (.cons
 (.ite (.cmp .isIn (.loc 1) (.str [85, 76, 70])) (.cons
 (.expr (.call 24 (.cons (.loc 0) .nil))) .nil) .nil) (.cons
 (.ite (.or (.cons (.cmp .gt (.bi .len (.cons (.loc 0) .nil)) (.gl 3)) (.cons (.and (.cons (.cmp .eq (.loc 1) (.str [81])) (.cons (.cmp .ge (.bi .len (.cons (.comp [] (.loc 0) (.loc 0) (.cmp .eq (.idx (.loc 0) (.int 0)) (.str [81]))) .nil)) (.gl 4)) .nil))) .nil))) (.cons
 (.raise (.str [99, 97, 115, 105, 110, 103, 115, 32, 110, 101, 115, 116, 101, 100, 32, 116, 111, 111, 32, 100, 101, 101, 112])) .nil) .nil) (.cons
 (.append (.loc 0) (.il (.cons (.loc 1) (.cons (.ml .nil) .nil)))) .nil)))
noncomputable def f_take_case : Fn where
 name := "take_case"
 np := 3
 names := ["stack", "text", "at", "mark", "pair"]
 body := (.cons
 (.assign 3 (.idx (.loc 1) (.bin .add (.loc 2) (.int 1)))) (.cons
 (.assign 4 (.slice (.loc 1) (.loc 2) (.bin .add (.loc 2) (.int 4)))) (.cons
 (.ite (.or (.cons (.cmp .eq (.loc 4) (.str [92, 76, 92, 117])) (.cons (.cmp .eq (.loc 4) (.str [92, 85, 92, 108])) .nil))) (.cons
 (.expr (.call 24 (.cons (.loc 0) .nil))) (.cons
 (.expr (.call 25 (.cons (.loc 0) (.cons (.idx (.loc 4) (.int 3)) .nil)))) (.cons
 (.expr (.call 25 (.cons (.loc 0) (.cons (.loc 3) .nil)))) (.cons
 (.ret (.bin .add (.loc 2) (.int 4))) .nil)))) .nil) (.cons
 (.ite (.cmp .eq (.loc 3) (.str [69])) (.cons
 (.expr (.call 23 (.cons (.loc 0) .nil))) .nil) (.cons
 (.expr (.call 25 (.cons (.loc 0) (.cons (.loc 3) .nil)))) .nil)) (.cons
 (.ret (.bin .add (.loc 2) (.int 2))) .nil)))))
noncomputable def f_take_piece : Fn where
 name := "take_piece"
 np := 4
 names := ["stack", "text", "at", "is_pattern", "sign", "behind", "piece"]
 body := (.cons
 (.assign 4 (.idx (.loc 1) (.loc 2))) (.cons
 (.ite (.cmp .eq (.loc 4) (.str [92])) (.cons
 (.ite (.loc 3) (.cons
 (.expr (.call 21 (.cons (.loc 0) (.cons (.tup (.cons (.str [116, 101, 120, 116]) (.cons (.slice (.loc 1) (.loc 2) (.bin .add (.loc 2) (.int 2))) .nil))) .nil)))) (.cons
 (.ret (.bin .add (.loc 2) (.int 2))) .nil)) .nil) (.cons
 (.assignT [6, 5] (.call 4 (.cons (.loc 1) (.cons (.loc 2) .nil)))) (.cons
 (.expr (.call 21 (.cons (.loc 0) (.cons (.tup (.cons (.str [116, 101, 120, 116]) (.cons (.loc 6) .nil))) .nil)))) (.cons
 (.ret (.loc 5)) .nil)))) .nil) (.cons
 (.assign 5 (.loc 2)) (.cons
 (.ite (.cmp .eq (.loc 4) (.str [36])) (.cons
 (.assign 5 (.call 19 (.cons (.loc 1) (.cons (.loc 2) (.cons (.loc 3) .nil))))) .nil) (.cons
 (.ite (.cmp .eq (.loc 4) (.str [64])) (.cons
 (.assign 5 (.call 20 (.cons (.loc 1) (.cons (.loc 2) (.cons (.loc 3) .nil))))) .nil) .nil) .nil)) (.cons
 (.ite (.cmp .gt (.loc 5) (.loc 2)) (.cons
 (.expr (.call 21 (.cons (.loc 0) (.cons (.tup (.cons (.str [101, 120, 112, 114]) (.cons (.slice (.loc 1) (.loc 2) (.loc 5)) .nil))) .nil)))) (.cons
 (.ret (.loc 5)) .nil)) .nil) (.cons
 (.expr (.call 21 (.cons (.loc 0) (.cons (.tup (.cons (.str [116, 101, 120, 116]) (.cons (.loc 4) .nil))) .nil)))) (.cons
 (.ret (.bin .add (.loc 2) (.int 1))) .nil)))))))
noncomputable def f_parts_of_b1 : Ss := (.cons
 (.expr (.call 22 (.cons (.loc 2) .nil))) .nil)
noncomputable def f_parts_of_b2 : Ss := (.cons
 (.assign 4 (.slice (.loc 0) (.bin .add (.loc 3) (.int 1)) (.bin .add (.loc 3) (.int 2)))) (.cons
 (.ite (.and (.cons (.cmp .eq (.idx (.loc 0) (.loc 3)) (.str [92])) (.cons (.cmp .ne (.loc 4) (.str [])) (.cons (.cmp .isIn (.loc 4) (.str [85, 76, 70, 81, 117, 108, 69])) .nil)))) (.cons
 (.assign 3 (.call 26 (.cons (.loc 2) (.cons (.loc 0) (.cons (.loc 3) .nil))))) .nil) (.cons
 (.assign 3 (.call 27 (.cons (.loc 2) (.cons (.loc 0) (.cons (.loc 3) (.cons (.loc 1) .nil)))))) .nil)) .nil))
noncomputable def f_parts_of : Fn where
 name := "parts_of"
 np := 2
 names := ["text", "is_pattern", "stack", "at", "follower"]
 body := (.cons
 (.assign 2 (.ml (.cons (.il (.cons (.str []) (.cons (.ml .nil) .nil))) .nil))) (.cons
 (.assign 3 (.int 0)) (.cons
 (.whl (.cmp .lt (.loc 3) (.bi .len (.cons (.loc 0) .nil))) f_parts_of_b2) (.cons
 (.whl (.cmp .gt (.bi .len (.cons (.loc 2) .nil)) (.int 1)) f_parts_of_b1) (.cons
 (.ret (.idx (.idx (.loc 2) (.int 0)) (.int 1))) .nil)))))
noncomputable def f_plain_qq_b1 : Ss := (.cons
 (.ite (.cmp .ne (.idx (.loc 2) (.int 0)) (.str [116, 101, 120, 116])) (.cons
 (.raise (.str [97, 32, 118, 97, 114, 105, 97, 98, 108, 101, 32, 119, 104, 101, 114, 101, 32, 110, 111, 110, 101, 32, 109, 97, 121, 32, 115, 116, 97, 110, 100])) .nil) .nil) (.cons
 (.aug 1 .add (.idx (.loc 2) (.int 1))) .nil))
noncomputable def f_plain_qq : Fn where
 name := "plain_qq"
 np := 1
 names := ["text", "out", "part"]
 body := (.cons
 (.assign 1 (.str [])) (.cons
 (.forE 2 (.call 28 (.cons (.loc 0) (.cons (.bool false) .nil))) f_plain_qq_b1) (.cons
 (.ret (.loc 1)) .nil)))
noncomputable def f_law_codes : Fn where
 name := "_law_codes"
 np := 0
 names := []
 body := (.cons
 (.ret (.il (.cons (.tup (.cons (.str [92, 120, 123, 49, 48, 102, 102, 102, 102, 125]) (.cons (.str [1114111]) .nil))) (.cons (.tup (.cons (.str [92, 120, 123, 52, 103, 125]) (.cons (.str [4]) .nil))) (.cons (.tup (.cons (.str [92, 111, 123, 56, 125]) (.cons (.str [0]) .nil))) (.cons (.tup (.cons (.str [92, 120, 123, 48, 48, 48, 48, 48, 48, 52, 49, 125]) (.cons (.str [65]) .nil))) (.cons (.tup (.cons (.str [92, 78, 120]) (.cons (.str [78, 120]) .nil))) (.cons (.tup (.cons (.str [92, 99, 63]) (.cons (.str [127]) .nil))) (.cons (.tup (.cons (.str [92, 99, 122]) (.cons (.str [26]) .nil))) (.cons (.tup (.cons (.str [92, 111, 123, 49, 48, 49, 125]) (.cons (.str [65]) .nil))) (.cons (.tup (.cons (.str [92, 120, 52, 71]) (.cons (.str [4, 71]) .nil))) (.cons (.tup (.cons (.str [92, 49, 48, 49, 56]) (.cons (.str [65, 56]) .nil))) .nil)))))))))))) .nil)
noncomputable def f_law_refused : Fn where
 name := "_law_refused"
 np := 0
 names := []
 body := (.cons
 (.ret (.il (.cons (.str [92, 120, 123, 49, 49, 48, 48, 48, 48, 125]) (.cons (.str [92, 120, 123, 52, 49]) (.cons (.str [92, 111, 123, 55]) (.cons (.str [92, 78, 123, 85, 43, 57]) (.cons (.str [92, 111, 123, 52, 50, 48, 48, 48, 48, 48, 125]) (.cons (.str [92, 78, 123, 85, 43, 102, 102, 102, 102, 102, 102, 102, 102, 125]) (.cons (.str [92, 120, 123]) .nil))))))))) .nil)
noncomputable def f_law_lot : Fn where
 name := "_law_lot"
 np := 2
 names := ["pot", "many", "nth"]
 body := (.cons
 (.assign 2 (.idx (.loc 0) (.int 1))) (.cons
 (.setIdx (.loc 0) (.int 1) (.bin .add (.loc 2) (.int 1))) (.cons
 (.ite (.cmp .lt (.loc 2) (.bi .len (.cons (.idx (.loc 0) (.int 0)) .nil))) (.cons
 (.ret (.bin .mod (.idx (.idx (.loc 0) (.int 0)) (.loc 2)) (.loc 1))) .nil) .nil) (.cons
 (.ret (.bin .mod (.bin .add (.bin .add (.bin .mul (.bin .mul (.int 3) (.loc 2)) (.loc 2)) (.bin .mul (.int 5) (.loc 2))) (.int 1)) (.loc 1))) .nil))))
noncomputable def f_law_title_b1 : Ss := (.cons
 (.aug 2 .add (.idx (.bin .add (.loc 1) (.str [48, 49, 50, 51, 52, 53, 54, 55, 56, 57])) (.call 32 (.cons (.loc 0) (.cons (.int 63) .nil))))) .nil)
noncomputable def f_law_title : Fn where
 name := "_law_title"
 np := 1
 names := ["pot", "signs", "text", "turn"]
 body := (.cons
 (.assign 1 (.bin .add (.bin .add (.gl 7) (.gl 8)) (.str [95]))) (.cons
 (.assign 2 (.idx (.loc 1) (.call 32 (.cons (.loc 0) (.cons (.int 53) .nil))))) (.cons
 (.forR 3 (.call 32 (.cons (.loc 0) (.cons (.int 3) .nil))) f_law_title_b1) (.cons
 (.ret (.loc 2)) .nil))))
noncomputable def f_law_upper : Fn where
 name := "_law_upper"
 np := 1
 names := ["text"]
 body := (.cons
 (.ret (.me .join (.str []) (.cons (.comp [] (.ite (.cmp .isIn (.loc 0) (.gl 7)) (.idx (.gl 8) (.me .find (.gl 7) (.cons (.loc 0) .nil))) (.loc 0)) (.loc 0) (.bool true)) .nil))) .nil)
noncomputable def f_law_lower : Fn where
 name := "_law_lower"
 np := 1
 names := ["text"]
 body := (.cons
 (.ret (.me .join (.str []) (.cons (.comp [] (.ite (.cmp .isIn (.loc 0) (.gl 8)) (.idx (.gl 7) (.me .find (.gl 8) (.cons (.loc 0) .nil))) (.loc 0)) (.loc 0) (.bool true)) .nil))) .nil)
noncomputable def f_law_guarded : Fn where
 name := "_law_guarded"
 np := 1
 names := ["text"]
 body := (.cons
 (.ret (.me .join (.str []) (.cons (.comp [] (.ite (.cmp .isIn (.loc 0) (.bin .add (.bin .add (.gl 7) (.gl 8)) (.gl 9))) (.loc 0) (.bin .add (.str [92]) (.loc 0))) (.loc 0) (.bool true)) .nil))) .nil)
noncomputable def f_law_run_b1 : Ss := (.cons
 (.assign 3 (.bi .chr (.cons (.bin .add (.int 33) (.call 32 (.cons (.loc 0) (.cons (.int 94) .nil)))) .nil))) (.cons
 (.aug 1 .add (.ite (.cmp .isIn (.loc 3) (.str [36, 64, 92])) (.str [126]) (.loc 3))) .nil))
noncomputable def f_law_run : Fn where
 name := "_law_run"
 np := 1
 names := ["pot", "text", "turn", "sign"]
 body := (.cons
 (.assign 1 (.str [])) (.cons
 (.forR 2 (.bin .add (.int 1) (.call 32 (.cons (.loc 0) (.cons (.int 4) .nil)))) f_law_run_b1) (.cons
 (.ret (.loc 1)) .nil)))
noncomputable def f_law_odd : Fn where
 name := "_law_odd"
 np := 1
 names := ["pot", "way", "title", "run", "sign", "text", "empty", "inner", "told"]
 body := (.cons
 (.assign 1 (.call 32 (.cons (.loc 0) (.cons (.int 17) .nil)))) (.cons
 (.assign 2 (.call 33 (.cons (.loc 0) .nil))) (.cons
 (.ite (.cmp .eq (.loc 1) (.int 0)) (.cons
 (.assign 4 (.idx (.str [38, 44, 59, 33, 64, 47, 34]) (.call 32 (.cons (.loc 0) (.cons (.int 7) .nil))))) (.cons
 (.ret (.tup (.cons (.bin .add (.bin .add (.str [36]) (.loc 4)) (.loc 2)) (.cons (.il (.cons (.tup (.cons (.str [101, 120, 112, 114]) (.cons (.bin .add (.str [36]) (.loc 4)) .nil))) (.cons (.tup (.cons (.str [116, 101, 120, 116]) (.cons (.loc 2) .nil))) .nil))) .nil)))) .nil)) .nil) (.cons
 (.ite (.cmp .eq (.loc 1) (.int 1)) (.cons
 (.ret (.tup (.cons (.bin .add (.bin .add (.str [36, 48]) (.bi .str (.cons (.call 32 (.cons (.loc 0) (.cons (.int 100) .nil))) .nil))) (.loc 2)) (.cons .none .nil)))) .nil) .nil) (.cons
 (.ite (.cmp .eq (.loc 1) (.int 2)) (.cons
 (.assign 5 (.idx (.il (.cons (.str [36, 35, 32]) (.cons (.str [36, 58, 58]) (.cons (.str [36, 36, 32]) (.cons (.str [36, 35, 91, 48, 93]) (.cons (.bin .add (.str [36, 32]) (.loc 2)) (.cons (.str [36, 41]) (.cons (.str [36, 37]) (.cons (.str [64, 45]) (.cons (.bin .add (.str [64, 32]) (.loc 2)) (.cons (.str [64, 49]) (.cons (.str [64, 58, 58]) (.cons (.str [36, 94, 87]) (.cons (.str [36, 62]) .nil)))))))))))))) (.call 32 (.cons (.loc 0) (.cons (.int 13) .nil))))) (.cons
 (.ret (.tup (.cons (.loc 5) (.cons (.il (.cons (.tup (.cons (.str [116, 101, 120, 116]) (.cons (.loc 5) .nil))) .nil)) .nil)))) .nil)) .nil) (.cons
 (.ite (.cmp .eq (.loc 1) (.int 3)) (.cons
 (.assign 6 (.idx (.il (.cons (.str [91, 93]) (.cons (.str [123, 125]) (.cons (.str [91, 32, 93]) (.cons (.str [123, 32, 9, 125]) (.cons (.str [91, 10, 93]) .nil)))))) (.call 32 (.cons (.loc 0) (.cons (.int 5) .nil))))) (.cons
 (.ret (.tup (.cons (.bin .add (.bin .add (.str [36]) (.loc 2)) (.loc 6)) (.cons (.il (.cons (.tup (.cons (.str [101, 120, 112, 114]) (.cons (.bin .add (.str [36]) (.loc 2)) .nil))) (.cons (.tup (.cons (.str [116, 101, 120, 116]) (.cons (.loc 6) .nil))) .nil))) .nil)))) .nil)) .nil) (.cons
 (.ite (.cmp .eq (.loc 1) (.int 4)) (.cons
 (.assign 7 (.idx (.il (.cons (.str [123, 39, 97, 92, 39, 125, 98, 39, 125]) (.cons (.str [91, 34, 93, 34, 93]) (.cons (.str [123, 92, 125, 125]) (.cons (.str [91, 36, 121, 123, 39, 93, 39, 125, 93]) (.cons (.str [123, 97, 125, 123, 98, 125, 45, 62, 91, 49, 93, 91, 50, 93, 45, 62, 123, 99, 125]) .nil)))))) (.call 32 (.cons (.loc 0) (.cons (.int 5) .nil))))) (.cons
 (.ret (.tup (.cons (.bin .add (.bin .add (.str [36]) (.loc 2)) (.loc 7)) (.cons (.il (.cons (.tup (.cons (.str [101, 120, 112, 114]) (.cons (.bin .add (.bin .add (.str [36]) (.loc 2)) (.loc 7)) .nil))) .nil)) .nil)))) .nil)) .nil) (.cons
 (.ite (.cmp .eq (.loc 1) (.int 5)) (.cons
 (.ret (.tup (.cons (.bin .add (.bin .add (.str [36]) (.loc 2)) (.str [58, 58])) (.cons (.il (.cons (.tup (.cons (.str [101, 120, 112, 114]) (.cons (.bin .add (.str [36]) (.loc 2)) .nil))) (.cons (.tup (.cons (.str [116, 101, 120, 116]) (.cons (.str [58, 58]) .nil))) .nil))) .nil)))) .nil) .nil) (.cons
 (.ite (.cmp .eq (.loc 1) (.int 6)) (.cons
 (.ret (.tup (.cons (.bin .add (.bin .add (.str [64]) (.loc 2)) (.str [45, 62, 91, 48, 93])) (.cons (.il (.cons (.tup (.cons (.str [101, 120, 112, 114]) (.cons (.bin .add (.str [64]) (.loc 2)) .nil))) (.cons (.tup (.cons (.str [116, 101, 120, 116]) (.cons (.str [45, 62, 91, 48, 93]) .nil))) .nil))) .nil)))) .nil) .nil) (.cons
 (.ite (.cmp .eq (.loc 1) (.int 7)) (.cons
 (.ret (.tup (.cons (.bin .add (.bin .add (.str [64, 58, 58]) (.loc 2)) (.str [91, 49, 93, 123, 50, 125])) (.cons (.il (.cons (.tup (.cons (.str [101, 120, 112, 114]) (.cons (.bin .add (.bin .add (.str [64, 58, 58]) (.loc 2)) (.str [91, 49, 93])) .nil))) (.cons (.tup (.cons (.str [116, 101, 120, 116]) (.cons (.str [123, 50, 125]) .nil))) .nil))) .nil)))) .nil) .nil) (.cons
 (.ite (.cmp .eq (.loc 1) (.int 8)) (.cons
 (.ret (.tup (.cons (.bin .add (.bin .add (.bin .add (.bin .add (.str [36]) (.loc 2)) (.str [58, 58])) (.loc 2)) (.str [45, 62, 120])) (.cons (.il (.cons (.tup (.cons (.str [101, 120, 112, 114]) (.cons (.bin .add (.bin .add (.bin .add (.str [36]) (.loc 2)) (.str [58, 58])) (.loc 2)) .nil))) (.cons (.tup (.cons (.str [116, 101, 120, 116]) (.cons (.str [45, 62, 120]) .nil))) .nil))) .nil)))) .nil) .nil) (.cons
 (.ite (.cmp .eq (.loc 1) (.int 9)) (.cons
 (.assignT [5, 8] (.idx (.call 30 .nil) (.call 32 (.cons (.loc 0) (.cons (.int 10) .nil))))) (.cons
 (.ret (.tup (.cons (.loc 5) (.cons (.il (.cons (.tup (.cons (.str [116, 101, 120, 116]) (.cons (.loc 8) .nil))) .nil)) .nil)))) .nil)) .nil) (.cons
 (.assign 3 (.call 37 (.cons (.loc 0) .nil))) (.cons
 (.ite (.cmp .eq (.loc 1) (.int 10)) (.cons
 (.ret (.tup (.cons (.bin .add (.bin .add (.str [92, 81]) (.loc 3)) (.str [92, 69])) (.cons (.il (.cons (.tup (.cons (.str [116, 101, 120, 116]) (.cons (.call 36 (.cons (.loc 3) .nil)) .nil))) .nil)) .nil)))) .nil) .nil) (.cons
 (.ite (.cmp .eq (.loc 1) (.int 11)) (.cons
 (.ret (.tup (.cons (.bin .add (.bin .add (.bin .add (.bin .add (.bin .add (.bin .add (.bin .add (.str [92, 85]) (.loc 3)) (.loc 2)) (.str [92, 76])) (.loc 3)) (.loc 2)) (.str [92, 69])) (.loc 2)) (.cons (.il (.cons (.tup (.cons (.str [116, 101, 120, 116]) (.cons (.bin .add (.bin .add (.call 34 (.cons (.bin .add (.loc 3) (.loc 2)) .nil)) (.call 35 (.cons (.bin .add (.loc 3) (.loc 2)) .nil))) (.loc 2)) .nil))) .nil)) .nil)))) .nil) .nil) (.cons
 (.ite (.cmp .eq (.loc 1) (.int 12)) (.cons
 (.ret (.tup (.cons (.bin .add (.bin .add (.bin .add (.bin .add (.str [92, 76]) (.loc 3)) (.loc 2)) (.str [92, 117, 92, 69])) (.loc 2)) (.cons (.il (.cons (.tup (.cons (.str [116, 101, 120, 116]) (.cons (.bin .add (.call 35 (.cons (.bin .add (.loc 3) (.loc 2)) .nil)) (.loc 2)) .nil))) .nil)) .nil)))) .nil) .nil) (.cons
 (.ite (.cmp .eq (.loc 1) (.int 13)) (.cons
 (.ret (.tup (.cons (.bin .add (.bin .add (.bin .add (.bin .add (.bin .add (.str [92, 85]) (.loc 3)) (.str [92, 76, 92, 117])) (.loc 2)) (.str [92, 69])) (.loc 2)) (.cons (.il (.cons (.tup (.cons (.str [116, 101, 120, 116]) (.cons (.bin .add (.bin .add (.bin .add (.call 34 (.cons (.loc 3) .nil)) (.call 34 (.cons (.idx (.loc 2) (.int 0)) .nil))) (.call 35 (.cons (.slice (.loc 2) (.int 1) .none) .nil))) (.loc 2)) .nil))) .nil)) .nil)))) .nil) .nil) (.cons
 (.ite (.cmp .eq (.loc 1) (.int 14)) (.cons
 (.ret (.tup (.cons (.bin .add (.bin .add (.bin .add (.bin .add (.str [92, 70]) (.loc 2)) (.str [92, 85, 92, 108])) (.loc 2)) (.str [92, 69])) (.cons (.il (.cons (.tup (.cons (.str [116, 101, 120, 116]) (.cons (.bin .add (.bin .add (.call 35 (.cons (.loc 2) .nil)) (.call 35 (.cons (.idx (.loc 2) (.int 0)) .nil))) (.call 34 (.cons (.slice (.loc 2) (.int 1) .none) .nil))) .nil))) .nil)) .nil)))) .nil) .nil) (.cons
 (.ite (.cmp .eq (.loc 1) (.int 15)) (.cons
 (.ret (.tup (.cons (.bin .add (.bin .add (.bin .add (.bin .add (.str [92, 81, 36]) (.loc 2)) (.str [45, 92, 85])) (.loc 2)) (.str [92, 69, 92, 69])) (.cons (.il (.cons (.tup (.cons (.str [99, 97, 115, 101]) (.cons (.str [81]) (.cons (.il (.cons (.tup (.cons (.str [101, 120, 112, 114]) (.cons (.bin .add (.str [36]) (.loc 2)) .nil))) (.cons (.tup (.cons (.str [116, 101, 120, 116]) (.cons (.bin .add (.str [45]) (.call 34 (.cons (.loc 2) .nil))) .nil))) .nil))) .nil)))) .nil)) .nil)))) .nil) .nil) (.cons
 (.ret (.tup (.cons (.bin .add (.bin .add (.str [92, 69, 92, 85, 92, 69, 92, 117, 92, 108, 36]) (.loc 2)) (.str [92, 69])) (.cons (.il (.cons (.tup (.cons (.str [99, 97, 115, 101]) (.cons (.str [117]) (.cons (.il (.cons (.tup (.cons (.str [99, 97, 115, 101]) (.cons (.str [108]) (.cons (.il (.cons (.tup (.cons (.str [101, 120, 112, 114]) (.cons (.bin .add (.str [36]) (.loc 2)) .nil))) .nil)) .nil)))) .nil)) .nil)))) .nil)) .nil)))) .nil))))))))))))))))))))
noncomputable def f_law_joined_b1 : Ss := (.cons
 (.ite (.and (.cons (.cmp .eq (.idx (.loc 2) (.int 0)) (.str [116, 101, 120, 116])) (.cons (.cmp .ne (.loc 1) (.il .nil)) (.cons (.cmp .eq (.idx (.idx (.loc 1) (.neg (.int 1))) (.int 0)) (.str [116, 101, 120, 116])) .nil)))) (.cons
 (.setIdx (.loc 1) (.neg (.int 1)) (.tup (.cons (.str [116, 101, 120, 116]) (.cons (.bin .add (.idx (.idx (.loc 1) (.neg (.int 1))) (.int 1)) (.idx (.loc 2) (.int 1))) .nil)))) .nil) (.cons
 (.append (.loc 1) (.loc 2)) .nil)) .nil)
noncomputable def f_law_joined : Fn where
 name := "_law_joined"
 np := 1
 names := ["parts", "found", "part"]
 body := (.cons
 (.assign 1 (.ml .nil)) (.cons
 (.forE 2 (.loc 0) f_law_joined_b1) (.cons
 (.ret (.loc 1)) .nil)))
noncomputable def f_law_pattern_right_b1 : Ss := (.cons
 (.assignT [6, 7] (.idx (.il (.cons (.tup (.cons (.bin .add (.bin .add (.bin .add (.bin .add (.str [36]) (.loc 1)) (.str [123])) (.loc 2)) (.str [44, 97, 125])) (.cons (.il (.cons (.tup (.cons (.str [101, 120, 112, 114]) (.cons (.bin .add (.bin .add (.bin .add (.bin .add (.str [36]) (.loc 1)) (.str [123])) (.loc 2)) (.str [44, 97, 125])) .nil))) .nil)) .nil))) (.cons (.tup (.cons (.bin .add (.bin .add (.str [36]) (.loc 1)) (.str [91, 45, 93])) (.cons (.il (.cons (.tup (.cons (.str [101, 120, 112, 114]) (.cons (.bin .add (.str [36]) (.loc 1)) .nil))) (.cons (.tup (.cons (.str [116, 101, 120, 116]) (.cons (.str [91, 45, 93]) .nil))) .nil))) .nil))) (.cons (.tup (.cons (.bin .add (.bin .add (.bin .add (.bin .add (.str [36]) (.loc 1)) (.str [91, 45])) (.loc 2)) (.str [93])) (.cons (.il (.cons (.tup (.cons (.str [101, 120, 112, 114]) (.cons (.bin .add (.bin .add (.bin .add (.bin .add (.str [36]) (.loc 1)) (.str [91, 45])) (.loc 2)) (.str [93])) .nil))) .nil)) .nil))) (.cons (.tup (.cons (.bin .add (.bin .add (.bin .add (.bin .add (.str [36]) (.loc 1)) (.str [123])) (.loc 2)) (.str [125])) (.cons (.il (.cons (.tup (.cons (.str [101, 120, 112, 114]) (.cons (.bin .add (.str [36]) (.loc 1)) .nil))) (.cons (.tup (.cons (.str [116, 101, 120, 116]) (.cons (.bin .add (.bin .add (.str [123]) (.loc 2)) (.str [125])) .nil))) .nil))) .nil))) (.cons (.tup (.cons (.bin .add (.bin .add (.bin .add (.bin .add (.str [36]) (.loc 1)) (.str [91])) (.loc 2)) (.str [45, 57, 93])) (.cons (.il (.cons (.tup (.cons (.str [101, 120, 112, 114]) (.cons (.bin .add (.str [36]) (.loc 1)) .nil))) (.cons (.tup (.cons (.str [116, 101, 120, 116]) (.cons (.bin .add (.bin .add (.str [91]) (.loc 2)) (.str [45, 57, 93])) .nil))) .nil))) .nil))) (.cons (.tup (.cons (.bin .add (.bin .add (.bin .add (.bin .add (.str [36]) (.loc 1)) (.str [123, 97, 44])) (.loc 2)) (.str [125])) (.cons (.il (.cons (.tup (.cons (.str [101, 120, 112, 114]) (.cons (.bin .add (.bin .add (.bin .add (.bin .add (.str [36]) (.loc 1)) (.str [123, 97, 44])) (.loc 2)) (.str [125])) .nil))) .nil)) .nil))) (.cons (.tup (.cons (.bin .add (.bin .add (.bin .add (.bin .add (.str [64]) (.loc 1)) (.str [123])) (.loc 2)) (.str [44, 125])) (.cons (.il (.cons (.tup (.cons (.str [101, 120, 112, 114]) (.cons (.bin .add (.str [64]) (.loc 1)) .nil))) (.cons (.tup (.cons (.str [116, 101, 120, 116]) (.cons (.bin .add (.bin .add (.str [123]) (.loc 2)) (.str [44, 125])) .nil))) .nil))) .nil))) (.cons (.tup (.cons (.bin .add (.str [92, 120, 123]) (.loc 2)) (.cons (.il (.cons (.tup (.cons (.str [116, 101, 120, 116]) (.cons (.bin .add (.str [92, 120, 123]) (.loc 2)) .nil))) .nil)) .nil))) .nil))))))))) (.call 32 (.cons (.loc 0) (.cons (.int 8) .nil))))) (.cons
 (.aug 3 .add (.bin .add (.loc 6) (.str [46]))) (.cons
 (.assign 4 (.bin .add (.bin .add (.loc 4) (.loc 7)) (.il (.cons (.tup (.cons (.str [116, 101, 120, 116]) (.cons (.str [46]) .nil))) .nil)))) .nil)))
noncomputable def f_law_pattern_right : Fn where
 name := "_law_pattern_right"
 np := 1
 names := ["pot", "title", "count", "text", "due", "turn", "raw", "parts"]
 body := (.cons
 (.assign 1 (.call 33 (.cons (.loc 0) .nil))) (.cons
 (.assign 2 (.bi .str (.cons (.call 32 (.cons (.loc 0) (.cons (.int 100) .nil))) .nil))) (.cons
 (.assign 3 (.str [])) (.cons
 (.assign 4 (.il .nil)) (.cons
 (.forR 5 (.call 32 (.cons (.loc 0) (.cons (.int 4) .nil))) f_law_pattern_right_b1) (.cons
 (.ret (.cmp .eq (.call 28 (.cons (.bin .add (.loc 3) (.str [92])) (.cons (.bool true) .nil))) (.call 39 (.cons (.bin .add (.loc 4) (.il (.cons (.tup (.cons (.str [116, 101, 120, 116]) (.cons (.str [92]) .nil))) .nil))) .nil)))) .nil))))))
noncomputable def f_law_b1 : Ss := (.cons
 (.tryS (.cons
 (.expr (.call 28 (.cons (.loc 6) (.cons (.bool false) .nil)))) (.cons
 (.ret (.bool false)) .nil)) 9 (.loc 6)) .nil)
noncomputable def f_law_b2 : Ss := (.cons
 (.assignT [9, 10] (.call 38 (.cons (.loc 1) .nil))) (.cons
 (.aug 2 .add (.bin .add (.loc 9) (.str [46]))) (.cons
 (.ite (.cmp .isNone (.loc 10) .none) (.cons
 (.assign 10 (.il (.cons (.tup (.cons (.str [101, 120, 112, 114]) (.cons (.str [36, 48]) .nil))) (.cons (.tup (.cons (.str [116, 101, 120, 116]) (.cons (.slice (.loc 9) (.int 2) .none) .nil))) .nil)))) .nil) .nil) (.cons
 (.assign 3 (.bin .add (.bin .add (.loc 3) (.loc 10)) (.il (.cons (.tup (.cons (.str [116, 101, 120, 116]) (.cons (.str [46]) .nil))) .nil)))) .nil))))
noncomputable def f_law : Fn where
 name := "law"
 np := 1
 names := ["script", "pot", "text", "due", "turn", "refused", "whole", "code", "sign", "raw", "parts"]
 body := (.cons
 (.assign 1 (.ml (.cons (.comp [] (.bin .mod (.loc 0) (.bin .pow (.int 10) (.int 9))) (.slice (.loc 0) .none (.int 40)) (.bool true)) (.cons (.int 0) .nil)))) (.cons
 (.assign 2 (.str [])) (.cons
 (.assign 3 (.il .nil)) (.cons
 (.forR 4 (.bin .add (.int 1) (.call 32 (.cons (.loc 1) (.cons (.int 5) .nil)))) f_law_b2) (.cons
 (.assignT [9, 10] (.idx (.gl 10) (.call 32 (.cons (.loc 1) (.cons (.int 13) .nil))))) (.cons
 (.ite (.or (.cons (.cmp .ne (.call 28 (.cons (.loc 2) (.cons (.bool false) .nil))) (.call 39 (.cons (.loc 3) .nil))) (.cons (.cmp .ne (.call 28 (.cons (.bin .add (.loc 2) (.loc 9)) (.cons (.bool false) .nil))) (.call 39 (.cons (.bin .add (.loc 3) (.loc 10)) .nil))) .nil))) (.cons
 (.ret (.bool false)) .nil) .nil) (.cons
 (.assign 5 (.idx (.call 31 .nil) (.call 32 (.cons (.loc 1) (.cons (.int 7) .nil))))) (.cons
 (.forE 6 (.il (.cons (.bin .add (.loc 2) (.loc 5)) (.cons (.loc 5) .nil))) f_law_b1) (.cons
 (.tryS (.cons
 (.expr (.call 29 (.cons (.loc 5) .nil))) (.cons
 (.ret (.bool false)) .nil)) 9 (.str [])) (.cons
 (.assign 7 (.call 32 (.cons (.loc 1) (.cons (.int 128) .nil)))) (.cons
 (.assign 8 (.bi .chr (.cons (.loc 7) .nil))) (.cons
 (.ite (.or (.cons (.cmp .ne (.call 7 (.cons (.loc 8) .nil)) (.cmp .isIn (.loc 8) (.bin .add (.bin .add (.gl 7) (.gl 8)) (.gl 9)))) (.cons (.cmp .ne (.call 8 (.cons (.str [81]) (.cons (.loc 8) .nil))) (.call 36 (.cons (.loc 8) .nil))) .nil))) (.cons
 (.ret (.bool false)) .nil) .nil) (.cons
 (.ite (.cmp .ne (.comp [8] (.call 8 (.cons (.loc 0) (.cons (.bin .add (.loc 1) (.loc 1)) .nil))) (.str [85, 76, 70, 117, 108]) (.bool true)) (.il (.cons (.call 34 (.cons (.bin .add (.loc 8) (.loc 8)) .nil)) (.cons (.call 35 (.cons (.bin .add (.loc 8) (.loc 8)) .nil)) (.cons (.call 35 (.cons (.bin .add (.loc 8) (.loc 8)) .nil)) (.cons (.bin .add (.call 34 (.cons (.loc 8) .nil)) (.loc 8)) (.cons (.bin .add (.call 35 (.cons (.loc 8) .nil)) (.loc 8)) .nil))))))) (.cons
 (.ret (.bool false)) .nil) .nil) (.cons
 (.ret (.call 40 (.cons (.loc 1) .nil))) .nil))))))))))))))
noncomputable def fnTab : List Fn := [f_closer_of, f_digits_value, f_coded_sign, f_braced_code, f_escape_at, f_great_letter, f_small_letter, f_is_plain_word_sign, f_cased_text, f_is_name_start, f_variable_name_end, f_quote_skip, f_subscript_end, f_digits_only, f_is_pattern_part, f_one_subscript, f_all_subscripts, f_base_end, f_is_braced_name, f_scalar_end, f_array_end, f_add_part, f_close_case, f_end_case, f_end_letters, f_begin_case, f_take_case, f_take_piece, f_parts_of, f_plain_qq, f_law_codes, f_law_refused, f_law_lot, f_law_title, f_law_upper, f_law_lower, f_law_guarded, f_law_run, f_law_odd, f_law_joined, f_law_pattern_right]
end Mine
end
set_option genInjectivity false
section
open PySem PySem.W PyProof.Rows PySem.Calls
namespace Mine
noncomputable def SeqAt (T : String) (h : Heap) (a : Addr) (vals : List Value) : Prop :=
 ∃ n, h.get? a = some { cls := .type T, data := .seq vals.toArray n }
noncomputable def Rel (ρ : List Addr) (h : Heap) (v : V) : Value → Prop := @V.rec (fun _ => Value → Prop) (fun _ => List Value → Prop)
 (fun x => x = .none) (fun b x => x = .bool b) (fun i x => ∃ t, x = .int i t)
 (fun s x => ∃ t, x = .str ⟨s.toArray⟩ t ∧ s.length ≤ LIM ∧ ∀ c ∈ s, c < 1114112)
 (fun _ r x => ∃ a vals, x = .ref a ∧ SeqAt "tuple" h a vals ∧ a ∉ ρ ∧ vals.length ≤ LIM ∧ r vals)
 (fun _ r x => ∃ a vals, x = .ref a ∧ SeqAt "list" h a vals ∧ a ∉ ρ ∧ vals.length ≤ LIM ∧ r vals)
 (fun i x => ∃ a, x = .ref a ∧ ρ[i]? = some a)
 (fun xs => xs = []) (fun _ _ r1 r2 xs => ∃ x ys, xs = x :: ys ∧ r1 x ∧ r2 ys) v
noncomputable def RelL (ρ : List Addr) (h : Heap) (vs : List V) : List Value → Prop := @V.rec_1 (fun _ => Value → Prop) (fun _ => List Value → Prop)
 (fun x => x = .none) (fun b x => x = .bool b) (fun i x => ∃ t, x = .int i t)
 (fun s x => ∃ t, x = .str ⟨s.toArray⟩ t ∧ s.length ≤ LIM ∧ ∀ c ∈ s, c < 1114112)
 (fun _ r x => ∃ a vals, x = .ref a ∧ SeqAt "tuple" h a vals ∧ a ∉ ρ ∧ vals.length ≤ LIM ∧ r vals)
 (fun _ r x => ∃ a vals, x = .ref a ∧ SeqAt "list" h a vals ∧ a ∉ ρ ∧ vals.length ≤ LIM ∧ r vals)
 (fun i x => ∃ a, x = .ref a ∧ ρ[i]? = some a)
 (fun xs => xs = []) (fun _ _ r1 r2 xs => ∃ x ys, xs = x :: ys ∧ r1 x ∧ r2 ys) vs
section
variable {ρ ρ' : List Addr} {h h' : Heap} {x : Value} {P : Value → Prop} {xs ys : List Value} {vs ws : List V} {v : V}
theorem Rel.none : Rel ρ h .none .none := rfl
theorem Rel.bool (b : Bool) : Rel ρ h (.bool b) (.bool b) := rfl
theorem Rel.int (i : Int) (t : Tok) : Rel ρ h (.int i) (.int i t) := ⟨t, rfl⟩
theorem Rel.str (s : List Nat) (t : Tok) (hs : s.length ≤ LIM) (hc : ∀ c ∈ s, c < 1114112) : Rel ρ h (.str s) (.str ⟨s.toArray⟩ t) := ⟨t, rfl, hs, hc⟩
theorem Rel.tup {a : Addr} (h1 : SeqAt "tuple" h a xs) (h2 : a ∉ ρ) (h3 : xs.length ≤ LIM) (h4 : RelL ρ h vs xs) : Rel ρ h (.tup vs) (.ref a) := ⟨a, xs, rfl, h1, h2, h3, h4⟩
theorem Rel.il {a : Addr} (h1 : SeqAt "list" h a xs) (h2 : a ∉ ρ) (h3 : xs.length ≤ LIM) (h4 : RelL ρ h vs xs) : Rel ρ h (.il vs) (.ref a) := ⟨a, xs, rfl, h1, h2, h3, h4⟩
theorem Rel.ref {i : Nat} {a : Addr} (h1 : ρ[i]? = some a) : Rel ρ h (.ref i) (.ref a) := ⟨a, rfl, h1⟩
theorem RelL.nil : RelL ρ h [] [] := rfl
theorem RelL.cons (h1 : Rel ρ h v x) (h2 : RelL ρ h vs xs) : RelL ρ h (v :: vs) (x :: xs) := ⟨x, xs, rfl, h1, h2⟩
@[elab_as_elim] theorem Rel.noneI (r : Rel ρ h .none x) (k : P .none) : P x := by cases (r : x = .none); exact k
@[elab_as_elim] theorem Rel.boolI {b : Bool} (r : Rel ρ h (.bool b) x) (k : P (.bool b)) : P x := by cases (r : x = .bool b); exact k
@[elab_as_elim] theorem Rel.intI {i : Int} (r : Rel ρ h (.int i) x) (k : ∀ t, P (.int i t)) : P x := by obtain ⟨t, rfl⟩ := r; exact k t
@[elab_as_elim] theorem Rel.strI {s : List Nat} (r : Rel ρ h (.str s) x) (k : ∀ t, s.length ≤ LIM → (∀ c ∈ s, c < 1114112) → P (.str ⟨s.toArray⟩ t)) : P x := by obtain ⟨t, rfl, h1, h2⟩ := r; exact k t h1 h2
@[elab_as_elim] theorem Rel.tupI (r : Rel ρ h (.tup vs) x) (k : ∀ a vals, SeqAt "tuple" h a vals → a ∉ ρ → vals.length ≤ LIM → RelL ρ h vs vals → P (.ref a)) : P x := by obtain ⟨a, vals, rfl, h1, h2, h3, h4⟩ := r; exact k a vals h1 h2 h3 h4
@[elab_as_elim] theorem Rel.ilI (r : Rel ρ h (.il vs) x) (k : ∀ a vals, SeqAt "list" h a vals → a ∉ ρ → vals.length ≤ LIM → RelL ρ h vs vals → P (.ref a)) : P x := by obtain ⟨a, vals, rfl, h1, h2, h3, h4⟩ := r; exact k a vals h1 h2 h3 h4
@[elab_as_elim] theorem Rel.refI {i : Nat} (r : Rel ρ h (.ref i) x) (k : ∀ a, ρ[i]? = some a → P (.ref a)) : P x := by obtain ⟨a, rfl, h1⟩ := r; exact k a h1
@[elab_as_elim] theorem RelL.nilI {P : List Value → Prop} (r : RelL ρ h [] xs) (k : P []) : P xs := by cases (r : xs = []); exact k
@[elab_as_elim] theorem RelL.consI {P : List Value → Prop} (r : RelL ρ h (v :: vs) xs) (k : ∀ x ys, Rel ρ h v x → RelL ρ h vs ys → P (x :: ys)) : P xs := by obtain ⟨x, ys, rfl, h1, h2⟩ := r; exact k x ys h1 h2
@[elab_as_elim] theorem RelL.oneI {P : List Value → Prop} (r : RelL ρ h [v] xs) (k : ∀ x, Rel ρ h v x → P [x]) : P xs := r.consI fun x _ h1 h2 => h2.nilI (k x h1)
theorem RelL.length (r : RelL ρ h vs xs) : vs.length = xs.length := by
 induction vs generalizing xs with
 | nil => exact r.nilI rfl
 | cons v vs ih => exact r.consI fun x ys _ h2 => congrArg (· + 1) (ih h2)
theorem RelL.get (r : RelL ρ h vs xs) {i : Nat} (e : vs[i]? = some v) : ∃ x, xs[i]? = some x ∧ Rel ρ h v x := by
 induction vs generalizing xs i with
 | nil => cases e
 | cons u vs ih =>
   refine r.consI fun x ys h1 h2 => ?_
   cases i with
   | zero => cases e; exact ⟨x, rfl, h1⟩
   | succ i => exact ih h2 e
theorem RelL.append (r : RelL ρ h vs xs) (q : RelL ρ h ws ys) : RelL ρ h (vs ++ ws) (xs ++ ys) := by
 induction vs generalizing xs with
 | nil => exact r.nilI q
 | cons v vs ih => exact r.consI fun x zs h1 h2 => .cons h1 (ih h2)
theorem RelL.set {i : Nat} (r : RelL ρ h vs xs) (q : Rel ρ h v x) : RelL ρ h (vs.set i v) (xs.set i x) := by
 induction vs generalizing xs i with
 | nil => exact r.nilI rfl
 | cons u vs ih =>
   refine r.consI fun y zs h1 h2 => ?_
   cases i with
   | zero => exact .cons q h2
   | succ i => exact .cons h1 (ih h2)
theorem RelL.take (i : Nat) (r : RelL ρ h vs xs) : RelL ρ h (vs.take i) (xs.take i) := by
 induction vs generalizing xs i with
 | nil => exact r.nilI (by cases i <;> exact rfl)
 | cons u vs ih =>
   refine r.consI fun y zs h1 h2 => ?_
   cases i with
   | zero => exact rfl
   | succ i => exact .cons h1 (ih i h2)
theorem RelL.dropLast (r : RelL ρ h vs xs) : RelL ρ h vs.dropLast xs.dropLast := by
 rw [List.dropLast_eq_take, List.dropLast_eq_take, r.length]; exact r.take _
theorem Rel.carry (k : ∀ T a vals, SeqAt T h a vals → a ∉ ρ → SeqAt T h' a vals ∧ a ∉ ρ') (kp : ∀ (i : Nat) (a : Addr), ρ[i]? = some a → ρ'[i]? = some a) (r : Rel ρ h v x) : Rel ρ' h' v x :=
 @V.rec (fun v => ∀ x, Rel ρ h v x → Rel ρ' h' v x) (fun vs => ∀ xs, RelL ρ h vs xs → RelL ρ' h' vs xs)
   (fun _ r => r) (fun _ _ r => r) (fun _ _ r => r) (fun _ _ r => r)
   (fun _ ih _ r => Rel.tupI r fun a vals h1 h2 h3 h4 => .tup (k _ _ _ h1 h2).1 (k _ _ _ h1 h2).2 h3 (ih _ h4))
   (fun _ ih _ r => Rel.ilI r fun a vals h1 h2 h3 h4 => .il (k _ _ _ h1 h2).1 (k _ _ _ h1 h2).2 h3 (ih _ h4))
   (fun _ _ r => Rel.refI r fun a h1 => .ref (kp _ _ h1)) (fun _ r => r) (fun _ _ ih1 ih2 _ r => RelL.consI r fun x ys h1 h2 => .cons (ih1 x h1) (ih2 ys h2)) v x r
theorem RelL.carry (k : ∀ T a vals, SeqAt T h a vals → a ∉ ρ → SeqAt T h' a vals ∧ a ∉ ρ') (kp : ∀ (i : Nat) (a : Addr), ρ[i]? = some a → ρ'[i]? = some a) (r : RelL ρ h vs xs) : RelL ρ' h' vs xs := by
 induction vs generalizing xs with
 | nil => exact r
 | cons v vs ih => exact r.consI fun x ys h1 h2 => .cons (h1.carry k kp) (ih h2)
theorem Rel.isInt {i : Int} (r : Rel ρ h (.int i) x) : ∃ t, x = .int i t := r
end
theorem mem_of_lookup {α β : Type} [BEq α] [LawfulBEq α] {n : α} {c : β} {cs : List (α × β)} (q : cs.lookup n = some c) : (n, c) ∈ cs := by
 induction cs with
 | nil => cases q
 | cons p r ih =>
   obtain ⟨k, d⟩ := p
   rw [List.lookup_cons] at q
   cases hk : n == k with
   | true => rw [hk] at q; cases q; rw [eq_of_beq hk]; exact .head _
   | false => rw [hk] at q; exact .tail _ (ih q)
structure Ex (X ρ : List Addr) (h h' : Heap) : Prop where
 seq : ∀ b o its n, h.get? b = some o → o.data = .seq its n → b ∉ ρ → h'.get? b = some o
 keep : ∀ b o, h.get? b = some o → b ∉ X → b ∉ ρ → h'.get? b = some o
 dicts : ∀ b o es n, h.get? b = some o → o.data = .dict es n → ∃ o' es' n', h'.get? b = some o' ∧ o'.data = .dict es' n'
 live : ∀ b o, h.get? b = some o → ∃ o', h'.get? b = some o'
theorem Ex.of_keeps {X ρ : List Addr} {h h' : Heap} (k : ∀ b o, h.get? b = some o → h'.get? b = some o) : Ex X ρ h h' :=
 ⟨fun b o _ _ e _ _ => k b o e, fun b o e _ _ => k b o e, fun b o es n e d => ⟨o, es, n, k b o e, d⟩, fun b o e => ⟨o, k b o e⟩⟩
theorem Ex.refl (X ρ : List Addr) (h : Heap) : Ex X ρ h h := .of_keeps fun _ _ e => e
theorem Ex.mono {X Y ρ : List Addr} {h h' : Heap} (x : Ex X ρ h h') (hs : ∀ a ∈ X, a ∈ Y) : Ex Y ρ h h' :=
 ⟨x.seq, fun b o e n1 n2 => x.keep b o e (fun q => n1 (hs _ q)) n2, x.dicts, x.live⟩
noncomputable def Grows (ρ : List Addr) (h : Heap) (ρ' : List Addr) : Prop := ∃ t, ρ' = ρ ++ t ∧ ∀ a ∈ t, h.get? a = none
theorem Grows.refl (ρ : List Addr) (h : Heap) : Grows ρ h ρ := ⟨[], by simp, by simp⟩
theorem Grows.get {ρ h ρ'} (g : Grows ρ h ρ') {i : Nat} {a : Addr} (e : ρ[i]? = some a) : ρ'[i]? = some a := by
 obtain ⟨t, rfl, _⟩ := g
 rw [List.getElem?_append_left (by
   have := List.getElem?_eq_some_iff.mp e; exact this.1)]; exact e
theorem Grows.not_mem {ρ h ρ'} (g : Grows ρ h ρ') {a : Addr} {o : Obj} (e : h.get? a = some o) (n : a ∉ ρ) : a ∉ ρ' := by
 obtain ⟨t, rfl, ht⟩ := g
 intro q
 rcases List.mem_append.mp q with q | q
 · exact n q
 · rw [ht a q] at e; cases e
structure Step (X ρ : List Addr) (h : Heap) (ρ' : List Addr) (h' : Heap) : Prop where
 ex : Ex X ρ h h'
 grows : Grows ρ h ρ'
theorem Step.refl (X ρ : List Addr) (h : Heap) : Step X ρ h ρ h := ⟨.refl .., .refl ..⟩
theorem Step.of_keeps {X ρ : List Addr} {h h' : Heap} (k : ∀ b o, h.get? b = some o → h'.get? b = some o) : Step X ρ h ρ h' := ⟨.of_keeps k, .refl ..⟩
theorem Step.mono {X Y ρ ρ' : List Addr} {h h' : Heap} (x : Step X ρ h ρ' h') (hs : ∀ a ∈ X, a ∈ Y) : Step Y ρ h ρ' h' := ⟨x.ex.mono hs, x.grows⟩
theorem Step.nil {Y ρ ρ' : List Addr} {h h' : Heap} (x : Step [] ρ h ρ' h') : Step Y ρ h ρ' h' := x.mono fun _ q => nomatch q
theorem Step.trans {X ρ ρ₁ ρ₂ : List Addr} {h h₁ h₂ : Heap} (x : Step X ρ h ρ₁ h₁) (y : Step X ρ₁ h₁ ρ₂ h₂) : Step X ρ h ρ₂ h₂ := by
 refine ⟨⟨fun b o its n e d nb => ?_, fun b o e n1 n2 => ?_, fun b o es n e d => ?_, fun b o e => ?_⟩, ?_⟩
 · exact y.ex.seq b o its n (x.ex.seq b o its n e d nb) d (x.grows.not_mem e nb)
 · exact y.ex.keep b o (x.ex.keep b o e n1 n2) n1 (x.grows.not_mem e n2)
 · obtain ⟨o', es', n', e', d'⟩ := x.ex.dicts b o es n e d
   exact y.ex.dicts b o' es' n' e' d'
 · obtain ⟨o', e'⟩ := x.ex.live b o e
   exact y.ex.live b o' e'
 · obtain ⟨t, rfl, ht⟩ := x.grows
   obtain ⟨u, rfl, hu⟩ := y.grows
   refine ⟨t ++ u, by simp, fun a ha => ?_⟩
   rcases List.mem_append.mp ha with ha | ha
   · exact ht a ha
   · cases e : h.get? a with
     | none => rfl
     | some o => obtain ⟨o', e'⟩ := x.ex.live a o e; rw [hu a ha] at e'; cases e'
theorem SeqAt.step {X ρ ρ' : List Addr} {h h' : Heap} {T a vals} (x : SeqAt T h a vals) (s : Step X ρ h ρ' h') (n : a ∉ ρ) : SeqAt T h' a vals :=
 let ⟨k, e⟩ := x; ⟨k, s.ex.seq a _ _ _ e rfl n⟩
theorem Step.carry {X ρ ρ' : List Addr} {h h' : Heap} (s : Step X ρ h ρ' h') (T : String) (a : Addr) (vals : List Value) (x : SeqAt T h a vals) (n : a ∉ ρ) : SeqAt T h' a vals ∧ a ∉ ρ' :=
 ⟨x.step s n, let ⟨_, e⟩ := x; s.grows.not_mem e n⟩
theorem Rel.step {X ρ ρ' : List Addr} {h h' : Heap} (s : Step X ρ h ρ' h') {v : V} {x : Value} (r : Rel ρ h v x) : Rel ρ' h' v x := r.carry s.carry fun _ _ e => s.grows.get e
theorem RelL.step {X ρ ρ' : List Addr} {h h' : Heap} (s : Step X ρ h ρ' h') {vs : List V} {xs : List Value} (r : RelL ρ h vs xs) : RelL ρ' h' vs xs := r.carry s.carry fun _ _ e => s.grows.get e
theorem Rel.keepSeq {ρ : List Addr} {h h' : Heap} (k : ∀ b o its n, h.get? b = some o → o.data = .seq its n → h'.get? b = some o) {v : V} {x : Value} (r : Rel ρ h v x) : Rel ρ h' v x :=
 r.carry (fun _ _ _ ⟨n, e⟩ q => ⟨⟨n, k _ _ _ _ e rfl⟩, q⟩) fun _ _ e => e
theorem RelL.keepSeq {ρ : List Addr} {h h' : Heap} (k : ∀ b o its n, h.get? b = some o → o.data = .seq its n → h'.get? b = some o) {vs : List V} {xs : List Value} (r : RelL ρ h vs xs) : RelL ρ h' vs xs :=
 r.carry (fun _ _ _ ⟨n, e⟩ q => ⟨⟨n, k _ _ _ _ e rfl⟩, q⟩) fun _ _ e => e
structure Inv (base : Heap) (ρ : List Addr) (μ : Mem) (h : Heap) : Prop where
 stays : base.StaysIn h
 len : ρ.length = μ.length
 nodup : ρ.Nodup
 fresh : ∀ a ∈ ρ, base.get? a = none
 cells : ∀ (i : Nat) (a : Addr) (vs : List V), ρ[i]? = some a → μ[i]? = some vs → ∃ vals, SeqAt "list" h a vals ∧ vals.length ≤ LIM ∧ RelL ρ h vs vals
theorem Inv.at {base ρ μ h} (I : Inv base ρ μ h) {a : Addr} (ha : a ∈ ρ) : ∃ vals, SeqAt "list" h a vals := by
 obtain ⟨i, hi, rfl⟩ := List.mem_iff_getElem.mp ha
 have hμ : i < μ.length := I.len ▸ hi
 obtain ⟨vals, h1, _⟩ := I.cells i ρ[i] μ[i] (List.getElem?_eq_getElem hi) (List.getElem?_eq_getElem hμ)
 exact ⟨vals, h1⟩
theorem Inv.quiet {base ρ μ h h'} {X : List Addr} (I : Inv base ρ μ h) (hX : ∀ a ∈ X, base.get? a = none) (x : Ex X [] h h') : Inv base ρ μ h' := by
 have st : Step X ρ h ρ h' := ⟨⟨fun b o its n e d _ => x.seq b o its n e d (by simp), fun b o e n1 _ => x.keep b o e n1 (by simp), x.dicts, x.live⟩, .refl ..⟩
 refine ⟨fun b o e => x.keep b o (I.stays b o e) (fun q => by rw [hX b q] at e; cases e) (by simp), I.len, I.nodup, I.fresh, fun i a vs h1 h2 => ?_⟩
 obtain ⟨vals, ⟨n, e⟩, hl, r⟩ := I.cells i a vs h1 h2
 exact ⟨vals, ⟨n, x.seq a _ _ _ e rfl (by simp)⟩, hl, r.step st⟩
theorem Inv.keeps {base ρ μ h h'} (I : Inv base ρ μ h) (k : ∀ b o, h.get? b = some o → h'.get? b = some o) : Inv base ρ μ h' :=
 I.quiet (X := []) (by simp) (.of_keeps k)
theorem Inv.alloc {base ρ μ h} (I : Inv base ρ μ h) {vs : List V} {vals : List Value} (r : RelL ρ h vs vals) (hl : vals.length ≤ LIM) :
   Inv base (ρ ++ [h.objs.size]) (μ ++ [vs]) (h.push { cls := .type "list", data := .seq vals.toArray }) ∧
   Step [] ρ h (ρ ++ [h.objs.size]) (h.push { cls := .type "list", data := .seq vals.toArray }) := by
 have hnone : h.get? h.objs.size = none := Heap.get?_none_of_le (Nat.le_refl _)
 have st : Step [] ρ h (ρ ++ [h.objs.size]) (h.push { cls := .type "list", data := .seq vals.toArray }) :=
   ⟨.of_keeps fun b o e => Heap.get?_push_of_some _ e, ⟨[h.objs.size], rfl, by simpa using hnone⟩⟩
 refine ⟨⟨fun b o e => Heap.get?_push_of_some _ (I.stays b o e), by simp [I.len], ?_, ?_, ?_⟩, st⟩
 · refine List.nodup_append.mpr ⟨I.nodup, by simp, fun a ha b hb => ?_⟩
   simp at hb; subst hb
   rintro rfl
   obtain ⟨vals', n, e⟩ := I.at ha
   rw [hnone] at e; cases e
 · intro a ha
   rcases List.mem_append.mp ha with ha | ha
   · exact I.fresh a ha
   · simp at ha; subst ha
     cases e : base.get? h.objs.size with
     | none => rfl
     | some o => have := I.stays _ _ e; rw [hnone] at this; cases this
 · intro i a ws h1 h2
   by_cases hi : i < ρ.length
   · rw [List.getElem?_append_left hi] at h1
     rw [List.getElem?_append_left (I.len ▸ hi)] at h2
     obtain ⟨vals', ⟨n, e⟩, hl', r'⟩ := I.cells i a ws h1 h2
     exact ⟨vals', ⟨n, Heap.get?_push_of_some _ e⟩, hl', r'.step st⟩
   · rw [List.getElem?_append_right (Nat.le_of_not_lt hi)] at h1
     rw [List.getElem?_append_right (I.len ▸ Nat.le_of_not_lt hi), ← I.len] at h2
     have h0 : i - ρ.length = 0 := by
       have := (List.getElem?_eq_some_iff.mp h1).1
       simp at this; lia
     rw [h0] at h1 h2
     simp at h1 h2; subst h1; subst h2
     exact ⟨vals, ⟨0, Heap.get?_push_size _ rfl⟩, hl, r.step st⟩
theorem Inv.put {base ρ μ h h'} (I : Inv base ρ μ h) {i : Nat} {a : Addr} {vs : List V} {vals : List Value} (ha : ρ[i]? = some a)
   (hs : Heap.SameBut a h h') (hn : SeqAt "list" h' a vals) (r : RelL ρ h vs vals) (hl : vals.length ≤ LIM) :
   Inv base ρ (μ.set i vs) h' ∧ Step [] ρ h ρ h' := by
 have ham : a ∈ ρ := List.mem_of_getElem? ha
 obtain ⟨old, n0, e0⟩ := I.at ham
 have st : Step [] ρ h ρ h' := by
   refine ⟨⟨fun b o its n e d nb => (hs.2 b fun q => nb (q ▸ ham)).trans e, fun b o e _ nb => (hs.2 b fun q => nb (q ▸ ham)).trans e, fun b o es n e d => ⟨o, es, n, (hs.2 b fun q => ?_).trans e, d⟩, fun b o e => ?_⟩, .refl ..⟩
   · subst q; rw [e0] at e; cases e; cases d
   · by_cases q : b = a
     · subst q; obtain ⟨n, e'⟩ := hn; exact ⟨_, e'⟩
     · exact ⟨o, (hs.2 b q).trans e⟩
 refine ⟨⟨fun b o e => (hs.2 b fun q => ?_).trans (I.stays b o e), by simp [I.len], I.nodup, I.fresh, fun j b ws h1 h2 => ?_⟩, st⟩
 · subst q; rw [I.fresh b ham] at e; cases e
 · by_cases hj : j = i
   · subst hj
     rw [ha] at h1; cases h1
     have hlt : j < μ.length := I.len ▸ (List.getElem?_eq_some_iff.mp ha).1
     rw [List.getElem?_set_self hlt] at h2; cases h2
     exact ⟨vals, hn, hl, r.step st⟩
   · rw [List.getElem?_set_ne (Ne.symm hj)] at h2
     obtain ⟨vals', ⟨n, e⟩, hl', r'⟩ := I.cells j b ws h1 h2
     have hba : b ≠ a := fun q => by
       subst q
       have hi' := List.getElem?_eq_some_iff.mp ha
       have hj' := List.getElem?_eq_some_iff.mp h1
       exact hj ((List.getElem_inj I.nodup).mp (hj'.2.trans hi'.2.symm))
     exact ⟨vals', ⟨n, (hs.2 b hba).trans e⟩, hl', r'.step st⟩
structure EnvOK (base : Heap) (sc : Scope) (ns : List Str) (env : Env) : Prop where
 kind : env.scope.kind = .function
 glob : env.globals = mainGlobals
 blt : env.builtins = builtinsNs
 gl : ∀ n, sc.names.lookup n = some .globalImplicit → env.kindOf n = some .globalImplicit
 ce : ∀ n, sc.names.lookup n = some .cell → env.kindOf n = some .cell
 nodup : ns.Nodup
 newL : base.get? env.locals = none
 newC : ∀ p ∈ env.cells, base.get? p.2 = none
 apart : ∀ n n' c, env.cells.lookup n = some c → env.cells.lookup n' = some c → n = n'
 frame : ∃ L, env.frame = some L
 plain : interactive env = false
noncomputable def own (env : Env) : List Addr := env.locals :: env.cells.map (·.2)
noncomputable def Holds (env : Env) (h : Heap) (m : Str → Option Value) (n : Str) (x : Value) : Prop :=
 (env.kindOf n = some .local ∧ m n = some x) ∨ ((env.kindOf n = some .cell ∨ env.kindOf n = some .free) ∧ ∃ c, env.cells.lookup n = some c ∧ h.IsCell c (some x))
structure Frm (ns : List Str) (env : Env) (h : Heap) (ρ : List Addr) (l : Loc) : Prop where
 len : l.length = ns.length
 has : ∃ m, h.Ns env.locals m ∧ ∀ (i : Nat) (n : Str) (v : V), ns[i]? = some n → l[i]? = some (some v) → ∃ x, Rel ρ h v x ∧ Holds env h m n x
 kinds : ∀ n ∈ ns, env.kindOf n = some .local ∨ ((env.kindOf n = some .cell ∨ env.kindOf n = some .free) ∧ ∃ c v, env.cells.lookup n = some c ∧ h.IsCell c v)
 cl : ∀ p ∈ env.cells, ∃ v, h.IsCell p.2 v
theorem Frm.step {ns env h h' ρ ρ' l} (F : Frm ns env h ρ l) (hρ : ∀ a ∈ ρ, ∃ vals, SeqAt "list" h a vals) (s : Step [] ρ h ρ' h') : Frm ns env h' ρ' l := by
 obtain ⟨hl, ⟨m, ⟨o, es, ep, ho, hd, r⟩, hv⟩, hk, hcl⟩ := F
 have nd : ∀ {a o}, h.get? a = some o → (∀ its n, o.data ≠ .seq its n) → a ∉ ρ := fun {a o} e hne ha => by
   obtain ⟨vals, n, e'⟩ := hρ a ha
   rw [e] at e'; cases e'; exact hne _ _ rfl
 have hc : ∀ {c v}, h.IsCell c v → h'.IsCell c v := fun {c v} ⟨o, e, d⟩ => ⟨o, s.ex.keep c o e (by simp) (nd e fun its n q => by rw [d] at q; cases q), d⟩
 refine ⟨hl, ⟨m, ⟨o, es, ep, s.ex.keep _ _ ho (by simp) (nd ho fun its n q => by rw [hd] at q; cases q), hd, r⟩, fun i n v h1 h2 => ?_⟩, fun n hn => ?_, fun p hp => let ⟨v, q⟩ := hcl p hp; ⟨v, hc q⟩⟩
 · obtain ⟨x, hr, hh⟩ := hv i n v h1 h2
   refine ⟨x, hr.step s, ?_⟩
   rcases hh with hh | ⟨k, c, h3, h4⟩
   · exact .inl hh
   · exact .inr ⟨k, c, h3, hc h4⟩
 · rcases hk n hn with k | ⟨k, c, v, h3, h4⟩
   · exact .inl k
   · exact .inr ⟨k, c, v, h3, hc h4⟩
end Mine
end
section
open PySem PySem.W PyProof.Rows PySem.Calls
namespace Mine
noncomputable def opOf (op : Bop) : Operator := match op with
 | .add => .Add | .sub => .Sub | .mul => .Mult | .mod => .Mod | .pow => .Pow | .xor => .BitXor
noncomputable def copOf (op : Cop) : CmpOp := match op with
 | .eq => .Eq | .ne => .NotEq | .lt => .Lt | .gt => .Gt | .ge => .GtE | .isIn => .In | .isNone => .Is
noncomputable def biName (b : Bi) : Str := match b with
 | .len => "len" | .chr => "chr" | .ord => "ord" | .str => "str" | .min => "min"
noncomputable def meName (m : Me) : Str := match m with
 | .find => "find" | .lower => "lower" | .strip => "strip" | .partition => "partition" | .join => "join" | .pop => "pop"
noncomputable def glob? (sc : Scope) (n : Str) : Bool := sc.names.lookup n == some .globalImplicit && !(n == ("__debug__" : Str))
noncomputable def notIdx (x : Expr) (i : Nat) : Bool := !(Nat.beq x.ctorIdx i)
noncomputable def notCall (x : Expr) : Bool := notIdx x 16
noncomputable def notStar (x : Expr) : Bool := notIdx x 22
noncomputable def notSlice (x : Expr) : Bool := notIdx x 26
noncomputable def notSet (x : Expr) : Bool := notIdx x 7
noncomputable def notComp3 (x : Expr) : Bool := notIdx x 8 && notIdx x 9 && notIdx x 10
noncomputable def notComp (x : Expr) : Bool := notComp3 x && notSet x && notIdx x 25 && notStar x
noncomputable def compScope (sc : Scope) (t : Str) (caps : List Str) : Bool :=
 decide (sc.kind = .function) && (sc.names.lookup t == some .local) && (sc.names.all fun x => x.2 != .cell) &&
 (sc.names.all fun x => x.2 != .local || sc.names.lookup x.1 == some .local) &&
 decide (sc.names.filterMap (fun x => if x.2 == .free then some x.1 else none) = caps) &&
 decide (caps.length ≤ 1) && (caps.all fun c => sc.names.lookup c == some .free) && !caps.contains t && !(t == ("__debug__" : Str))
theorem ff {P : Prop} (h : false = true) : P := Bool.noConfusion h
noncomputable def isIt {α : Type} [DecidableEq α] (a b : α) (r : Bool) : Bool := decide (a = b) && r
@[elab_as_elim] theorem isIt_inv {α : Type} [DecidableEq α] {P : α → Prop} {a b : α} {r : Bool} (h : isIt a b r = true) (k : r = true → P b) : P a := by
 obtain ⟨h1, h2⟩ := Bool.and_eq_true_iff.mp h
 rw [of_decide_eq_true h1]; exact k h2
theorem an {P : Prop} {a b : Bool} (h : (a && b) = true) (k : a = true → b = true → P) : P := by cases a; exact ff h; exact k rfl h
noncomputable def l0 {α : Type} (xs : List α) (r : Bool) : Bool := match xs with | [] => r | _ :: _ => false
@[elab_as_elim] theorem l0_inv {α : Type} {P : List α → Prop} {xs : List α} {r : Bool} (h : l0 xs r = true) (k : r = true → P []) : P xs := by cases xs; exact k h; exact ff h
noncomputable def lc {α : Type} (xs : List α) (f : α → List α → Bool) : Bool := match xs with | [] => false | x :: r => f x r
@[elab_as_elim] theorem lc_inv {α : Type} {P : List α → Prop} {xs : List α} {f : α → List α → Bool} (h : lc xs f = true) (k : ∀ x r, f x r = true → P (x :: r)) : P xs := by cases xs; exact ff h; exact k _ _ h
noncomputable def l1 {α : Type} (xs : List α) (f : α → Bool) : Bool := lc xs fun x r => l0 r (f x)
@[elab_as_elim] theorem l1_inv {α : Type} {P : List α → Prop} {xs : List α} {f : α → Bool} (h : l1 xs f = true) (k : ∀ x, f x = true → P [x]) : P xs := lc_inv h fun x _ h => l0_inv h fun h => k x h
noncomputable def l2 {α : Type} (xs : List α) (f : α → α → Bool) : Bool := lc xs fun x r => l1 r (f x)
@[elab_as_elim] theorem l2_inv {α : Type} {P : List α → Prop} {xs : List α} {f : α → α → Bool} (h : l2 xs f = true) (k : ∀ x y, f x y = true → P [x, y]) : P xs := lc_inv h fun x _ h => l1_inv h fun y h => k x y h
noncomputable def oS {α : Type} (x : Option α) (f : α → Bool) : Bool := match x with | some a => f a | none => false
@[elab_as_elim] theorem oS_inv {α : Type} {P : Option α → Prop} {x : Option α} {f : α → Bool} (h : oS x f = true) (k : ∀ a, f a = true → P (some a)) : P x := by cases x; exact ff h; exact k _ h
noncomputable def oN {α : Type} (x : Option α) (r : Bool) : Bool := match x with | some _ => false | none => r
@[elab_as_elim] theorem oN_inv {α : Type} {P : Option α → Prop} {x : Option α} {r : Bool} (h : oN x r = true) (k : r = true → P none) : P x := by cases x; exact k h; exact ff h
theorem dt {p : Prop} [d : Decidable p] {f : p → Bool} {R : Prop} (h : (if q : p then f q else false) = true) (k : ∀ q : p, f q = true → R) : R := by cases d with | isTrue q => exact k q h | isFalse q => exact ff h
noncomputable def kBool (x : Const) (f : Bool → Bool) : Bool := if h : x.ctorIdx = 1 then Const.bool.elim x h f else false
@[elab_as_elim] theorem kBool_inv {P : Const → Prop} {x : Const} {f : Bool → Bool} (h : kBool x f = true) (k : ∀ b, f b = true → P (.bool b)) : P x :=
 dt h fun q h => Const.bool.elim (motive := fun x => ∀ q : x.ctorIdx = 1, Const.bool.elim x q f = true → P x) x q (fun b _ h => k b h) q h
noncomputable def kInt (x : Const) (f : Int → Bool) : Bool := if h : x.ctorIdx = 2 then Const.int.elim x h f else false
@[elab_as_elim] theorem kInt_inv {P : Const → Prop} {x : Const} {f : Int → Bool} (h : kInt x f = true) (k : ∀ b, f b = true → P (.int b)) : P x :=
 dt h fun q h => Const.int.elim (motive := fun x => ∀ q : x.ctorIdx = 2, Const.int.elim x q f = true → P x) x q (fun b _ h => k b h) q h
noncomputable def kStr (x : Const) (f : Str → Bool) : Bool := if h : x.ctorIdx = 5 then Const.str.elim x h f else false
@[elab_as_elim] theorem kStr_inv {P : Const → Prop} {x : Const} {f : Str → Bool} (h : kStr x f = true) (k : ∀ b, f b = true → P (.str b)) : P x :=
 dt h fun q h => Const.str.elim (motive := fun x => ∀ q : x.ctorIdx = 5, Const.str.elim x q f = true → P x) x q (fun b _ h => k b h) q h
noncomputable def kNone (x : Const) : Bool := decide (x = .none)
@[elab_as_elim] theorem kNone_inv {P : Const → Prop} {x : Const} (h : kNone x = true) (k : P .none) : P x := by rw [of_decide_eq_true h]; exact k
noncomputable def vConst (x : Expr) (f : Const → Nat → Pos → Bool) : Bool := if h : x.ctorIdx = 19 then Expr.Constant.elim x h f else false
@[elab_as_elim] theorem vConst_inv {P : Expr → Prop} {x : Expr} {f : Const → Nat → Pos → Bool} (h : vConst x f = true) (k : ∀ c kk p, f c kk p = true → P (.Constant c kk p)) : P x :=
 dt h fun q h => Expr.Constant.elim (motive_1 := fun x => ∀ q : x.ctorIdx = 19, Expr.Constant.elim x q f = true → P x) x q (fun c kk p _ h => k c kk p h) q h
noncomputable def vName (x : Expr) (f : Str → Pos → Bool) : Bool := if h : x.ctorIdx = 23 then Expr.Name.elim x h f else false
@[elab_as_elim] theorem vName_inv {P : Expr → Prop} {x : Expr} {f : Str → Pos → Bool} (h : vName x f = true) (k : ∀ n p, f n p = true → P (.Name n p)) : P x :=
 dt h fun q h => Expr.Name.elim (motive_1 := fun x => ∀ q : x.ctorIdx = 23, Expr.Name.elim x q f = true → P x) x q (fun n p _ h => k n p h) q h
noncomputable def vBin (x : Expr) (f : Expr → Operator → Expr → Pos → Bool) : Bool := if h : x.ctorIdx = 2 then Expr.BinOp.elim x h f else false
@[elab_as_elim] theorem vBin_inv {P : Expr → Prop} {x : Expr} {f : Expr → Operator → Expr → Pos → Bool} (h : vBin x f = true) (k : ∀ l o r p, f l o r p = true → P (.BinOp l o r p)) : P x :=
 dt h fun q h => Expr.BinOp.elim (motive_1 := fun x => ∀ q : x.ctorIdx = 2, Expr.BinOp.elim x q f = true → P x) x q (fun l o r p _ h => k l o r p h) q h
noncomputable def vUn (x : Expr) (f : UnaryOp → Expr → Pos → Bool) : Bool := if h : x.ctorIdx = 3 then Expr.UnaryOp.elim x h f else false
@[elab_as_elim] theorem vUn_inv {P : Expr → Prop} {x : Expr} {f : UnaryOp → Expr → Pos → Bool} (h : vUn x f = true) (k : ∀ o y p, f o y p = true → P (.UnaryOp o y p)) : P x :=
 dt h fun q h => Expr.UnaryOp.elim (motive_1 := fun x => ∀ q : x.ctorIdx = 3, Expr.UnaryOp.elim x q f = true → P x) x q (fun o y p _ h => k o y p h) q h
noncomputable def vCmp (x : Expr) (f : Expr → (List CmpOp) → (List Expr) → Pos → Bool) : Bool := if h : x.ctorIdx = 15 then Expr.Compare.elim x h f else false
@[elab_as_elim] theorem vCmp_inv {P : Expr → Prop} {x : Expr} {f : Expr → (List CmpOp) → (List Expr) → Pos → Bool} (h : vCmp x f = true) (k : ∀ l os rs p, f l os rs p = true → P (.Compare l os rs p)) : P x :=
 dt h fun q h => Expr.Compare.elim (motive_1 := fun x => ∀ q : x.ctorIdx = 15, Expr.Compare.elim x q f = true → P x) x q (fun l os rs p _ h => k l os rs p h) q h
noncomputable def vBOp (x : Expr) (f : BoolOp → (List Expr) → Pos → Bool) : Bool := if h : x.ctorIdx = 0 then Expr.BoolOp.elim x h f else false
@[elab_as_elim] theorem vBOp_inv {P : Expr → Prop} {x : Expr} {f : BoolOp → (List Expr) → Pos → Bool} (h : vBOp x f = true) (k : ∀ o xs p, f o xs p = true → P (.BoolOp o xs p)) : P x :=
 dt h fun q h => Expr.BoolOp.elim (motive_1 := fun x => ∀ q : x.ctorIdx = 0, Expr.BoolOp.elim x q f = true → P x) x q (fun o xs p _ h => k o xs p h) q h
noncomputable def vIf (x : Expr) (f : Expr → Expr → Expr → Pos → Bool) : Bool := if h : x.ctorIdx = 5 then Expr.IfExp.elim x h f else false
@[elab_as_elim] theorem vIf_inv {P : Expr → Prop} {x : Expr} {f : Expr → Expr → Expr → Pos → Bool} (h : vIf x f = true) (k : ∀ t a b p, f t a b p = true → P (.IfExp t a b p)) : P x :=
 dt h fun q h => Expr.IfExp.elim (motive_1 := fun x => ∀ q : x.ctorIdx = 5, Expr.IfExp.elim x q f = true → P x) x q (fun t a b p _ h => k t a b p h) q h
noncomputable def vTup (x : Expr) (f : (List Expr) → Nat → Pos → Bool) : Bool := if h : x.ctorIdx = 25 then Expr.Tuple.elim x h f else false
@[elab_as_elim] theorem vTup_inv {P : Expr → Prop} {x : Expr} {f : (List Expr) → Nat → Pos → Bool} (h : vTup x f = true) (k : ∀ xs kk p, f xs kk p = true → P (.Tuple xs kk p)) : P x :=
 dt h fun q h => Expr.Tuple.elim (motive_1 := fun x => ∀ q : x.ctorIdx = 25, Expr.Tuple.elim x q f = true → P x) x q (fun xs kk p _ h => k xs kk p h) q h
noncomputable def vList (x : Expr) (f : (List Expr) → Pos → Bool) : Bool := if h : x.ctorIdx = 24 then Expr.List.elim x h f else false
@[elab_as_elim] theorem vList_inv {P : Expr → Prop} {x : Expr} {f : (List Expr) → Pos → Bool} (h : vList x f = true) (k : ∀ xs p, f xs p = true → P (.List xs p)) : P x :=
 dt h fun q h => Expr.List.elim (motive_1 := fun x => ∀ q : x.ctorIdx = 24, Expr.List.elim x q f = true → P x) x q (fun xs p _ h => k xs p h) q h
noncomputable def vSub (x : Expr) (f : Expr → Expr → Pos → Bool) : Bool := if h : x.ctorIdx = 21 then Expr.Subscript.elim x h f else false
@[elab_as_elim] theorem vSub_inv {P : Expr → Prop} {x : Expr} {f : Expr → Expr → Pos → Bool} (h : vSub x f = true) (k : ∀ l r p, f l r p = true → P (.Subscript l r p)) : P x :=
 dt h fun q h => Expr.Subscript.elim (motive_1 := fun x => ∀ q : x.ctorIdx = 21, Expr.Subscript.elim x q f = true → P x) x q (fun l r p _ h => k l r p h) q h
noncomputable def vSl (x : Expr) (f : (Option Expr) → (Option Expr) → (Option Expr) → Pos → Bool) : Bool := if h : x.ctorIdx = 26 then Expr.Slice.elim x h f else false
@[elab_as_elim] theorem vSl_inv {P : Expr → Prop} {x : Expr} {f : (Option Expr) → (Option Expr) → (Option Expr) → Pos → Bool} (h : vSl x f = true) (k : ∀ a b c p, f a b c p = true → P (.Slice a b c p)) : P x :=
 dt h fun q h => Expr.Slice.elim (motive_1 := fun x => ∀ q : x.ctorIdx = 26, Expr.Slice.elim x q f = true → P x) x q (fun a b c p _ h => k a b c p h) q h
noncomputable def vCall (x : Expr) (f : Expr → (List Expr) → (List Keyword) → Pos → Bool) : Bool := if h : x.ctorIdx = 16 then Expr.Call.elim x h f else false
@[elab_as_elim] theorem vCall_inv {P : Expr → Prop} {x : Expr} {f : Expr → (List Expr) → (List Keyword) → Pos → Bool} (h : vCall x f = true) (k : ∀ g xs ks p, f g xs ks p = true → P (.Call g xs ks p)) : P x :=
 dt h fun q h => Expr.Call.elim (motive_1 := fun x => ∀ q : x.ctorIdx = 16, Expr.Call.elim x q f = true → P x) x q (fun g xs ks p _ h => k g xs ks p h) q h
noncomputable def vAt (x : Expr) (f : Expr → Str → Pos → Bool) : Bool := if h : x.ctorIdx = 20 then Expr.Attribute.elim x h f else false
@[elab_as_elim] theorem vAt_inv {P : Expr → Prop} {x : Expr} {f : Expr → Str → Pos → Bool} (h : vAt x f = true) (k : ∀ o n p, f o n p = true → P (.Attribute o n p)) : P x :=
 dt h fun q h => Expr.Attribute.elim (motive_1 := fun x => ∀ q : x.ctorIdx = 20, Expr.Attribute.elim x q f = true → P x) x q (fun o n p _ h => k o n p h) q h
noncomputable def vComp (x : Expr) (f : Expr → (List Comprehension) → Scope → Pos → Bool) : Bool := if h : x.ctorIdx = 8 then Expr.ListComp.elim x h f else false
@[elab_as_elim] theorem vComp_inv {P : Expr → Prop} {x : Expr} {f : Expr → (List Comprehension) → Scope → Pos → Bool} (h : vComp x f = true) (k : ∀ e gs sc p, f e gs sc p = true → P (.ListComp e gs sc p)) : P x :=
 dt h fun q h => Expr.ListComp.elim (motive_1 := fun x => ∀ q : x.ctorIdx = 8, Expr.ListComp.elim x q f = true → P x) x q (fun e gs sc p _ h => k e gs sc p h) q h
noncomputable def vAsg (x : Stmt) (f : (List Expr) → Expr → Pos → Bool) : Bool := if h : x.ctorIdx = 5 then Stmt.Assign.elim x h f else false
@[elab_as_elim] theorem vAsg_inv {P : Stmt → Prop} {x : Stmt} {f : (List Expr) → Expr → Pos → Bool} (h : vAsg x f = true) (k : ∀ ts v p, f ts v p = true → P (.Assign ts v p)) : P x :=
 dt h fun q h => Stmt.Assign.elim (motive_2 := fun x => ∀ q : x.ctorIdx = 5, Stmt.Assign.elim x q f = true → P x) x q (fun ts v p _ h => k ts v p h) q h
noncomputable def vAug (x : Stmt) (f : Expr → Operator → Expr → Pos → Bool) : Bool := if h : x.ctorIdx = 7 then Stmt.AugAssign.elim x h f else false
@[elab_as_elim] theorem vAug_inv {P : Stmt → Prop} {x : Stmt} {f : Expr → Operator → Expr → Pos → Bool} (h : vAug x f = true) (k : ∀ t o v p, f t o v p = true → P (.AugAssign t o v p)) : P x :=
 dt h fun q h => Stmt.AugAssign.elim (motive_2 := fun x => ∀ q : x.ctorIdx = 7, Stmt.AugAssign.elim x q f = true → P x) x q (fun t o v p _ h => k t o v p h) q h
noncomputable def vEx (x : Stmt) (f : Expr → Pos → Bool) : Bool := if h : x.ctorIdx = 24 then Stmt.Expr.elim x h f else false
@[elab_as_elim] theorem vEx_inv {P : Stmt → Prop} {x : Stmt} {f : Expr → Pos → Bool} (h : vEx x f = true) (k : ∀ v p, f v p = true → P (.Expr v p)) : P x :=
 dt h fun q h => Stmt.Expr.elim (motive_2 := fun x => ∀ q : x.ctorIdx = 24, Stmt.Expr.elim x q f = true → P x) x q (fun v p _ h => k v p h) q h
noncomputable def vSIf (x : Stmt) (f : Expr → (List Stmt) → (List Stmt) → Pos → Bool) : Bool := if h : x.ctorIdx = 12 then Stmt.If.elim x h f else false
@[elab_as_elim] theorem vSIf_inv {P : Stmt → Prop} {x : Stmt} {f : Expr → (List Stmt) → (List Stmt) → Pos → Bool} (h : vSIf x f = true) (k : ∀ t a b p, f t a b p = true → P (.If t a b p)) : P x :=
 dt h fun q h => Stmt.If.elim (motive_2 := fun x => ∀ q : x.ctorIdx = 12, Stmt.If.elim x q f = true → P x) x q (fun t a b p _ h => k t a b p h) q h
noncomputable def vWh (x : Stmt) (f : Expr → (List Stmt) → (List Stmt) → Pos → Bool) : Bool := if h : x.ctorIdx = 11 then Stmt.While.elim x h f else false
@[elab_as_elim] theorem vWh_inv {P : Stmt → Prop} {x : Stmt} {f : Expr → (List Stmt) → (List Stmt) → Pos → Bool} (h : vWh x f = true) (k : ∀ t a b p, f t a b p = true → P (.While t a b p)) : P x :=
 dt h fun q h => Stmt.While.elim (motive_2 := fun x => ∀ q : x.ctorIdx = 11, Stmt.While.elim x q f = true → P x) x q (fun t a b p _ h => k t a b p h) q h
noncomputable def vFor (x : Stmt) (f : Expr → Expr → (List Stmt) → (List Stmt) → Pos → Bool) : Bool := if h : x.ctorIdx = 9 then Stmt.For.elim x h f else false
@[elab_as_elim] theorem vFor_inv {P : Stmt → Prop} {x : Stmt} {f : Expr → Expr → (List Stmt) → (List Stmt) → Pos → Bool} (h : vFor x f = true) (k : ∀ t y a b p, f t y a b p = true → P (.For t y a b p)) : P x :=
 dt h fun q h => Stmt.For.elim (motive_2 := fun x => ∀ q : x.ctorIdx = 9, Stmt.For.elim x q f = true → P x) x q (fun t y a b p _ h => k t y a b p h) q h
noncomputable def vBrk (x : Stmt) (f : Pos → Bool) : Bool := if h : x.ctorIdx = 26 then Stmt.Break.elim x h f else false
@[elab_as_elim] theorem vBrk_inv {P : Stmt → Prop} {x : Stmt} {f : Pos → Bool} (h : vBrk x f = true) (k : ∀ p, f p = true → P (.Break p)) : P x :=
 dt h fun q h => Stmt.Break.elim (motive_2 := fun x => ∀ q : x.ctorIdx = 26, Stmt.Break.elim x q f = true → P x) x q (fun p _ h => k p h) q h
noncomputable def vCont (x : Stmt) (f : Pos → Bool) : Bool := if h : x.ctorIdx = 27 then Stmt.Continue.elim x h f else false
@[elab_as_elim] theorem vCont_inv {P : Stmt → Prop} {x : Stmt} {f : Pos → Bool} (h : vCont x f = true) (k : ∀ p, f p = true → P (.Continue p)) : P x :=
 dt h fun q h => Stmt.Continue.elim (motive_2 := fun x => ∀ q : x.ctorIdx = 27, Stmt.Continue.elim x q f = true → P x) x q (fun p _ h => k p h) q h
noncomputable def vRet (x : Stmt) (f : (Option Expr) → Pos → Bool) : Bool := if h : x.ctorIdx = 3 then Stmt.Return.elim x h f else false
@[elab_as_elim] theorem vRet_inv {P : Stmt → Prop} {x : Stmt} {f : (Option Expr) → Pos → Bool} (h : vRet x f = true) (k : ∀ v p, f v p = true → P (.Return v p)) : P x :=
 dt h fun q h => Stmt.Return.elim (motive_2 := fun x => ∀ q : x.ctorIdx = 3, Stmt.Return.elim x q f = true → P x) x q (fun v p _ h => k v p h) q h
noncomputable def vRs (x : Stmt) (f : (Option Expr) → (Option Expr) → Pos → Bool) : Bool := if h : x.ctorIdx = 16 then Stmt.Raise.elim x h f else false
@[elab_as_elim] theorem vRs_inv {P : Stmt → Prop} {x : Stmt} {f : (Option Expr) → (Option Expr) → Pos → Bool} (h : vRs x f = true) (k : ∀ x y p, f x y p = true → P (.Raise x y p)) : P x :=
 dt h fun q h => Stmt.Raise.elim (motive_2 := fun x => ∀ q : x.ctorIdx = 16, Stmt.Raise.elim x q f = true → P x) x q (fun x y p _ h => k x y p h) q h
noncomputable def vTry (x : Stmt) (f : (List Stmt) → (List ExceptHandler) → (List Stmt) → (List Stmt) → Pos → Bool) : Bool := if h : x.ctorIdx = 17 then Stmt.Try.elim x h f else false
@[elab_as_elim] theorem vTry_inv {P : Stmt → Prop} {x : Stmt} {f : (List Stmt) → (List ExceptHandler) → (List Stmt) → (List Stmt) → Pos → Bool} (h : vTry x f = true) (k : ∀ a hs b c p, f a hs b c p = true → P (.Try a hs b c p)) : P x :=
 dt h fun q h => Stmt.Try.elim (motive_2 := fun x => ∀ q : x.ctorIdx = 17, Stmt.Try.elim x q f = true → P x) x q (fun a hs b c p _ h => k a hs b c p h) q h
noncomputable def Fn.ns (fn : Fn) : List Str := fn.names.map Str.ofString
noncomputable def fnNames : List Str := fnTab.map fun f => Str.ofString f.name
noncomputable abbrev XE := Scope → List Str → Expr → Bool
noncomputable abbrev XEs := Scope → List Str → List Expr → Bool
noncomputable def E.isNo (e : E) : Bool := Nat.beq e.ctorIdx 0
noncomputable def E.isYes (e : E) : Bool := if h : e.ctorIdx = 1 then E.bool.elim e h id else false
noncomputable def E.isLoc (e : E) : Bool := Nat.beq e.ctorIdx 4
noncomputable def E.isStr (e : E) : Bool := Nat.beq e.ctorIdx 3
noncomputable def trO (no : Bool) (f : Expr → Bool) (y : Option Expr) : Bool := match y with | some x => f x | none => no
noncomputable def trIfs (yes : Bool) (f : Expr → Bool) (ifs : List Expr) : Bool := match ifs with | [] => yes | c :: r => l0 r (f c)
noncomputable def vGen (x : Comprehension) (f : Expr → Expr → List Expr → Int → Bool) : Bool := match x with | ⟨a, b, c, d⟩ => f a b c d
@[elab_as_elim] theorem vGen_inv {P : Comprehension → Prop} {x : Comprehension} {f : Expr → Expr → List Expr → Int → Bool} (h : vGen x f = true) (k : ∀ a b c d, f a b c d = true → P ⟨a, b, c, d⟩) : P x := by cases x; exact k _ _ _ _ h
noncomputable def caps (ns : List Str) (cs : List Nat) : List Str := cs.filterMap fun c => ns[c]?
noncomputable def trE (sc : Scope) (ns : List Str) (e : E) (x : Expr) : Bool := @E.rec (fun _ => XE) (fun _ => XEs)
 (fun sc ns x => vConst x fun c kk p => kNone c)
 (fun b sc ns x => vConst x fun c kk p => kBool c fun d => isIt d b true)
 (fun i sc ns x => vConst x fun c kk p => kInt c fun d => isIt d i true)
 (fun s sc ns x => vConst x fun c kk p => kStr c fun d => isIt d ⟨s.toArray⟩ (decide (s.length ≤ 1000) && s.all (· < 1114112)))
 (fun i sc ns x => vName x fun n p => decide (ns[i]? = some n) && (!(n == ("__debug__" : Str)) && !(n == ("__classdict__" : Str))))
 (fun i sc ns x => vName x fun n p => decide ((globTab[i]?).map (fun p => Str.ofString p.1) = some n) && glob? sc n)
 (fun op a b r_a r_b sc ns x => vBin x fun l o r p => isIt o (opOf op) (r_a sc ns l && r_b sc ns r))
 (fun a r_a sc ns x => vUn x fun o y p => isIt o .USub (r_a sc ns y))
 (fun a r_a sc ns x => vUn x fun o y p => isIt o .Not (r_a sc ns y))
 (fun op a b r_a r_b sc ns x => vCmp x fun l os rs p => l1 os fun o => l1 rs fun r => isIt o (copOf op) (r_a sc ns l && (r_b sc ns r && notSet r)))
 (fun a b c r_a r_b r_c sc ns x => vCmp x fun l os rs p => l2 os fun o o2 => l2 rs fun m r => isIt o .LtE (isIt o2 .LtE (r_a sc ns l && (r_b sc ns m && (r_c sc ns r && notSet r)))))
 (fun es r_es sc ns x => vBOp x fun o xs p => isIt o .And (r_es sc ns xs && decide (2 ≤ xs.length)))
 (fun es r_es sc ns x => vBOp x fun o xs p => isIt o .Or (r_es sc ns xs && decide (2 ≤ xs.length)))
 (fun t a b r_t r_a r_b sc ns x => vIf x fun y l r p => r_t sc ns y && (r_a sc ns l && r_b sc ns r))
 (fun es r_es sc ns x => vTup x fun xs kk p => r_es sc ns xs && decide (xs.length ≤ 1000))
 (fun es r_es sc ns x => vList x fun xs p => r_es sc ns xs && decide (xs.length ≤ 1000))
 (fun es r_es sc ns x => vList x fun xs p => r_es sc ns xs && decide (xs.length ≤ 1000))
 (fun a i r_a r_i sc ns x => vSub x fun l r p => r_a sc ns l && (r_i sc ns r && notSlice r))
 (fun a lo hi r_a r_lo r_hi sc ns x => vSub x fun l r p => vSl r fun y z t q => oN t (r_a sc ns l && (trO lo.isNo (r_lo sc ns) y && trO hi.isNo (r_hi sc ns) z)))
 (fun f es r_es sc ns x => vCall x fun g xs ks p => vName g fun n q => l0 ks (decide (fnNames[f]? = some n) && (glob? sc n && (r_es sc ns xs && decide (xs.length ≤ 20)))))
 (fun b es r_es sc ns x => vCall x fun g xs ks p => vName g fun n q => l0 ks (isIt n (biName b) (glob? sc (biName b) && (r_es sc ns xs && decide (xs.length ≤ 20)))))
 (fun m a es r_a r_es sc ns x => vCall x fun g xs ks p => vAt g fun o n ap => l0 ks (isIt n (meName m) (ap.endLine == p.line && (notCall o && (r_a sc ns o && (r_es sc ns xs && decide (xs.length ≤ 20)))))))
 (fun a r_a sc ns x => vCmp x fun l os rs p => l1 os fun o => l1 rs fun r => isIt o .In (vName r fun n q => isIt n ("SHORT_ESCAPES" : Str) (glob? sc ("SHORT_ESCAPES" : Str) && r_a sc ns l)))
 (fun a r_a sc ns x => vSub x fun l r p => vName l fun n q => isIt n ("SHORT_ESCAPES" : Str) (glob? sc ("SHORT_ESCAPES" : Str) && (r_a sc ns r && notSlice r)))
 (fun a r_a sc ns x => vCall x fun g xs ks p => vAt g fun o m ap => vName o fun n q => l2 xs fun y z => l0 ks (isIt n ("CLOSERS" : Str) (isIt m ("get" : Str) (ap.endLine == p.line && (glob? sc ("CLOSERS" : Str) && (r_a sc ns y && (r_a sc ns z && (notStar y && (notStar z && a.isLoc)))))))))
 (fun cs elt it cond r_elt r_it r_cond sc ns x => vComp x fun e gs sc2 p => l1 gs fun g => vGen g fun tg it0 ifs a => vName tg fun t q => isIt a 0 (compScope sc2 t (caps ns cs) && (decide ((caps ns cs).length = cs.length) && (((caps ns cs).all fun n => sc.names.lookup n == some .cell) && (r_it sc ns it0 && (notSet it0 && (r_elt sc2 (t :: caps ns cs) e && trIfs cond.isYes (r_cond sc2 (t :: caps ns cs)) ifs)))))))
 (fun sc ns xs => l0 xs true)
 (fun e es r_e r_es sc ns xs => lc xs fun x r => r_e sc ns x && (notStar x && r_es sc ns r)) e sc ns x
noncomputable def trEs (sc : Scope) (ns : List Str) (es : Es) (xs : List Expr) : Bool := @Es.rec (fun _ => XE) (fun _ => XEs)
 (fun sc ns x => vConst x fun c kk p => kNone c)
 (fun b sc ns x => vConst x fun c kk p => kBool c fun d => isIt d b true)
 (fun i sc ns x => vConst x fun c kk p => kInt c fun d => isIt d i true)
 (fun s sc ns x => vConst x fun c kk p => kStr c fun d => isIt d ⟨s.toArray⟩ (decide (s.length ≤ 1000) && s.all (· < 1114112)))
 (fun i sc ns x => vName x fun n p => decide (ns[i]? = some n) && (!(n == ("__debug__" : Str)) && !(n == ("__classdict__" : Str))))
 (fun i sc ns x => vName x fun n p => decide ((globTab[i]?).map (fun p => Str.ofString p.1) = some n) && glob? sc n)
 (fun op a b r_a r_b sc ns x => vBin x fun l o r p => isIt o (opOf op) (r_a sc ns l && r_b sc ns r))
 (fun a r_a sc ns x => vUn x fun o y p => isIt o .USub (r_a sc ns y))
 (fun a r_a sc ns x => vUn x fun o y p => isIt o .Not (r_a sc ns y))
 (fun op a b r_a r_b sc ns x => vCmp x fun l os rs p => l1 os fun o => l1 rs fun r => isIt o (copOf op) (r_a sc ns l && (r_b sc ns r && notSet r)))
 (fun a b c r_a r_b r_c sc ns x => vCmp x fun l os rs p => l2 os fun o o2 => l2 rs fun m r => isIt o .LtE (isIt o2 .LtE (r_a sc ns l && (r_b sc ns m && (r_c sc ns r && notSet r)))))
 (fun es r_es sc ns x => vBOp x fun o xs p => isIt o .And (r_es sc ns xs && decide (2 ≤ xs.length)))
 (fun es r_es sc ns x => vBOp x fun o xs p => isIt o .Or (r_es sc ns xs && decide (2 ≤ xs.length)))
 (fun t a b r_t r_a r_b sc ns x => vIf x fun y l r p => r_t sc ns y && (r_a sc ns l && r_b sc ns r))
 (fun es r_es sc ns x => vTup x fun xs kk p => r_es sc ns xs && decide (xs.length ≤ 1000))
 (fun es r_es sc ns x => vList x fun xs p => r_es sc ns xs && decide (xs.length ≤ 1000))
 (fun es r_es sc ns x => vList x fun xs p => r_es sc ns xs && decide (xs.length ≤ 1000))
 (fun a i r_a r_i sc ns x => vSub x fun l r p => r_a sc ns l && (r_i sc ns r && notSlice r))
 (fun a lo hi r_a r_lo r_hi sc ns x => vSub x fun l r p => vSl r fun y z t q => oN t (r_a sc ns l && (trO lo.isNo (r_lo sc ns) y && trO hi.isNo (r_hi sc ns) z)))
 (fun f es r_es sc ns x => vCall x fun g xs ks p => vName g fun n q => l0 ks (decide (fnNames[f]? = some n) && (glob? sc n && (r_es sc ns xs && decide (xs.length ≤ 20)))))
 (fun b es r_es sc ns x => vCall x fun g xs ks p => vName g fun n q => l0 ks (isIt n (biName b) (glob? sc (biName b) && (r_es sc ns xs && decide (xs.length ≤ 20)))))
 (fun m a es r_a r_es sc ns x => vCall x fun g xs ks p => vAt g fun o n ap => l0 ks (isIt n (meName m) (ap.endLine == p.line && (notCall o && (r_a sc ns o && (r_es sc ns xs && decide (xs.length ≤ 20)))))))
 (fun a r_a sc ns x => vCmp x fun l os rs p => l1 os fun o => l1 rs fun r => isIt o .In (vName r fun n q => isIt n ("SHORT_ESCAPES" : Str) (glob? sc ("SHORT_ESCAPES" : Str) && r_a sc ns l)))
 (fun a r_a sc ns x => vSub x fun l r p => vName l fun n q => isIt n ("SHORT_ESCAPES" : Str) (glob? sc ("SHORT_ESCAPES" : Str) && (r_a sc ns r && notSlice r)))
 (fun a r_a sc ns x => vCall x fun g xs ks p => vAt g fun o m ap => vName o fun n q => l2 xs fun y z => l0 ks (isIt n ("CLOSERS" : Str) (isIt m ("get" : Str) (ap.endLine == p.line && (glob? sc ("CLOSERS" : Str) && (r_a sc ns y && (r_a sc ns z && (notStar y && (notStar z && a.isLoc)))))))))
 (fun cs elt it cond r_elt r_it r_cond sc ns x => vComp x fun e gs sc2 p => l1 gs fun g => vGen g fun tg it0 ifs a => vName tg fun t q => isIt a 0 (compScope sc2 t (caps ns cs) && (decide ((caps ns cs).length = cs.length) && (((caps ns cs).all fun n => sc.names.lookup n == some .cell) && (r_it sc ns it0 && (notSet it0 && (r_elt sc2 (t :: caps ns cs) e && trIfs cond.isYes (r_cond sc2 (t :: caps ns cs)) ifs)))))))
 (fun sc ns xs => l0 xs true)
 (fun e es r_e r_es sc ns xs => lc xs fun x r => r_e sc ns x && (notStar x && r_es sc ns r)) es sc ns xs
noncomputable def namesAre (ns : List Str) : List Nat → List Expr → Bool
 | [], xs => l0 xs true
 | i :: r, xs => lc xs fun x s => vName x fun n _ => decide (ns[i]? = some n) && namesAre ns r s
noncomputable def vHan (x : ExceptHandler) (f : Option Expr → Option Str → List Stmt → Pos → Bool) : Bool := match x with | .ExceptHandler a b c d => f a b c d
noncomputable abbrev XS := Scope → List Str → Stmt → Bool
noncomputable abbrev XSs := Scope → List Str → List Stmt → Bool
noncomputable def trS (sc : Scope) (ns : List Str) (s : S) (x : Stmt) : Bool := @S.rec (fun _ => XS) (fun _ => XSs)
 (fun i e sc ns x => vAsg x fun ts v p => l1 ts fun t => vName t fun n q => decide (ns[i]? = some n) && (trE sc ns e v && notComp3 v))
 (fun is e sc ns x => vAsg x fun ts v p => l1 ts fun t => vTup t fun xs kk q => namesAre ns is xs && (trE sc ns e v && notComp v))
 (fun a i e sc ns x => vAsg x fun ts v p => l1 ts fun t => vSub t fun l r q => trE sc ns e v && (trE sc ns a l && (trE sc ns i r && (notSlice r && notComp3 v))))
 (fun i op e sc ns x => vAug x fun t o v p => vName t fun n q => isIt o (opOf op) (decide (ns[i]? = some n) && (trE sc ns e v && !(n == ("__classdict__" : Str)))))
 (fun e sc ns x => vEx x fun v p => trE sc ns e v && notComp v)
 (fun a e sc ns x => vEx x fun v p => vCall v fun g xs ks p2 => vAt g fun o n ap => l1 xs fun y => l0 ks (isIt n ("append" : Str) (ap.endLine == p2.line && (notCall o && (notStar y && (trE sc ns a o && trE sc ns e y))))))
 (fun c a b r_a r_b sc ns x => vSIf x fun t u v p => trE sc ns c t && (r_a sc ns u && r_b sc ns v))
 (fun c b r_b sc ns x => vWh x fun t u v p => l0 v (trE sc ns c t && r_b sc ns u))
 (fun i it b r_b sc ns x => vFor x fun t y u v p => vName t fun n q => l0 v (decide (ns[i]? = some n) && (trE sc ns it y && (notSet y && r_b sc ns u))))
 (fun i m b r_b sc ns x => vFor x fun t y u v p => vName t fun n q => l0 v (vCall y fun g xs ks p2 => vName g fun rn q2 => l1 xs fun z => l0 ks (isIt rn ("range" : Str) (decide (ns[i]? = some n) && (glob? sc ("range" : Str) && (notStar z && (trE sc ns m z && r_b sc ns u)))))))
 (fun sc ns x => vBrk x fun p => true)
 (fun sc ns x => vCont x fun p => true)
 (fun e sc ns x => vRet x fun v p => oS v (trE sc ns e))
 (fun e sc ns x => vRs x fun a b p => oN b (oS a fun y => vCall y fun g xs ks p2 => vName g fun n q => l2 xs fun y z => l0 ks (vConst z fun c kk p3 => kInt c fun j => isIt j 0 (isIt n ("SyntaxDie" : Str) (glob? sc ("SyntaxDie" : Str) && (notStar y && (trE sc ns e y && e.isStr)))))))
 (fun b i e r_b sc ns x => vTry x fun u hs v z p => l0 v (l0 z (l1 hs fun h => vHan h fun ty nm bd p2 => oN nm (oS ty fun y => vName y fun n q => l1 bd fun st => vAsg st fun ts w p3 => l1 ts fun t => vName t fun tn q3 => isIt n ("SyntaxDie" : Str) (glob? sc ("SyntaxDie" : Str) && (r_b sc ns u && (decide (ns[i]? = some tn) && (trE sc ns e w && (e.isLoc || e.isStr)))))))))
 (fun sc ns xs => l0 xs true)
 (fun s ss r_s r_ss sc ns xs => lc xs fun x r => r_s sc ns x && r_ss sc ns r) s sc ns x
noncomputable def trSs (sc : Scope) (ns : List Str) (ss : Ss) (xs : List Stmt) : Bool := @Ss.rec (fun _ => XS) (fun _ => XSs)
 (fun i e sc ns x => vAsg x fun ts v p => l1 ts fun t => vName t fun n q => decide (ns[i]? = some n) && (trE sc ns e v && notComp3 v))
 (fun is e sc ns x => vAsg x fun ts v p => l1 ts fun t => vTup t fun xs kk q => namesAre ns is xs && (trE sc ns e v && notComp v))
 (fun a i e sc ns x => vAsg x fun ts v p => l1 ts fun t => vSub t fun l r q => trE sc ns e v && (trE sc ns a l && (trE sc ns i r && (notSlice r && notComp3 v))))
 (fun i op e sc ns x => vAug x fun t o v p => vName t fun n q => isIt o (opOf op) (decide (ns[i]? = some n) && (trE sc ns e v && !(n == ("__classdict__" : Str)))))
 (fun e sc ns x => vEx x fun v p => trE sc ns e v && notComp v)
 (fun a e sc ns x => vEx x fun v p => vCall v fun g xs ks p2 => vAt g fun o n ap => l1 xs fun y => l0 ks (isIt n ("append" : Str) (ap.endLine == p2.line && (notCall o && (notStar y && (trE sc ns a o && trE sc ns e y))))))
 (fun c a b r_a r_b sc ns x => vSIf x fun t u v p => trE sc ns c t && (r_a sc ns u && r_b sc ns v))
 (fun c b r_b sc ns x => vWh x fun t u v p => l0 v (trE sc ns c t && r_b sc ns u))
 (fun i it b r_b sc ns x => vFor x fun t y u v p => vName t fun n q => l0 v (decide (ns[i]? = some n) && (trE sc ns it y && (notSet y && r_b sc ns u))))
 (fun i m b r_b sc ns x => vFor x fun t y u v p => vName t fun n q => l0 v (vCall y fun g xs ks p2 => vName g fun rn q2 => l1 xs fun z => l0 ks (isIt rn ("range" : Str) (decide (ns[i]? = some n) && (glob? sc ("range" : Str) && (notStar z && (trE sc ns m z && r_b sc ns u)))))))
 (fun sc ns x => vBrk x fun p => true)
 (fun sc ns x => vCont x fun p => true)
 (fun e sc ns x => vRet x fun v p => oS v (trE sc ns e))
 (fun e sc ns x => vRs x fun a b p => oN b (oS a fun y => vCall y fun g xs ks p2 => vName g fun n q => l2 xs fun y z => l0 ks (vConst z fun c kk p3 => kInt c fun j => isIt j 0 (isIt n ("SyntaxDie" : Str) (glob? sc ("SyntaxDie" : Str) && (notStar y && (trE sc ns e y && e.isStr)))))))
 (fun b i e r_b sc ns x => vTry x fun u hs v z p => l0 v (l0 z (l1 hs fun h => vHan h fun ty nm bd p2 => oN nm (oS ty fun y => vName y fun n q => l1 bd fun st => vAsg st fun ts w p3 => l1 ts fun t => vName t fun tn q3 => isIt n ("SyntaxDie" : Str) (glob? sc ("SyntaxDie" : Str) && (r_b sc ns u && (decide (ns[i]? = some tn) && (trE sc ns e w && (e.isLoc || e.isStr)))))))))
 (fun sc ns xs => l0 xs true)
 (fun s ss r_s r_ss sc ns xs => lc xs fun x r => r_s sc ns x && r_ss sc ns r) ss sc ns xs
section
variable {sc : Scope} {ns : List Str}
@[elab_as_elim] theorem tr_none {P : Expr → Prop} {x : Expr} (h : trE sc ns .none x = true) (k : ∀ (kk : Nat) (p : Pos), P (.Constant .none kk p)) : P x :=
 have h : (vConst x fun c kk p => kNone c) = true := h
 vConst_inv h fun c kk p h => kNone_inv h (k kk p)
@[elab_as_elim] theorem tr_bool {P : Expr → Prop} {b : Bool} {x : Expr} (h : trE sc ns (.bool b) x = true) (k : ∀ (kk : Nat) (p : Pos), P (.Constant (.bool b) kk p)) : P x :=
 have h : (vConst x fun c kk p => kBool c fun d => isIt d b true) = true := h
 vConst_inv h fun c kk p h => kBool_inv h fun d h => isIt_inv h fun _ => k kk p
@[elab_as_elim] theorem tr_int {P : Expr → Prop} {i : Int} {x : Expr} (h : trE sc ns (.int i) x = true) (k : ∀ (kk : Nat) (p : Pos), P (.Constant (.int i) kk p)) : P x :=
 have h : (vConst x fun c kk p => kInt c fun d => isIt d i true) = true := h
 vConst_inv h fun c kk p h => kInt_inv h fun d h => isIt_inv h fun _ => k kk p
@[elab_as_elim] theorem tr_str {P : Expr → Prop} {s : (List Nat)} {x : Expr} (h : trE sc ns (.str s) x = true) (k : ∀ (kk : Nat) (p : Pos), s.length ≤ 1000 → (s.all (· < 1114112)) = true → P (.Constant (.str ⟨s.toArray⟩) kk p)) : P x :=
 have h : (vConst x fun c kk p => kStr c fun d => isIt d ⟨s.toArray⟩ (decide (s.length ≤ 1000) && s.all (· < 1114112))) = true := h
 vConst_inv h fun c kk p h => kStr_inv h fun d h => isIt_inv h fun h => an h fun h1 h2 => k kk p (of_decide_eq_true h1) h2
@[elab_as_elim] theorem tr_loc {P : Expr → Prop} {i : Nat} {x : Expr} (h : trE sc ns (.loc i) x = true) (k : ∀ (n : Str) (p : Pos), ns[i]? = some n → (!(n == ("__debug__" : Str))) = true → (!(n == ("__classdict__" : Str))) = true → P (.Name n p)) : P x :=
 have h : (vName x fun n p => decide (ns[i]? = some n) && (!(n == ("__debug__" : Str)) && !(n == ("__classdict__" : Str)))) = true := h
 vName_inv h fun n p h => an h fun h1 h => an h fun h2 h3 => k n p (of_decide_eq_true h1) h2 h3
@[elab_as_elim] theorem tr_gl {P : Expr → Prop} {i : Nat} {x : Expr} (h : trE sc ns (.gl i) x = true) (k : ∀ (n : Str) (p : Pos), (globTab[i]?).map (fun p => Str.ofString p.1) = some n → glob? sc n = true → P (.Name n p)) : P x :=
 have h : (vName x fun n p => decide ((globTab[i]?).map (fun p => Str.ofString p.1) = some n) && glob? sc n) = true := h
 vName_inv h fun n p h => an h fun h1 h2 => k n p (of_decide_eq_true h1) h2
@[elab_as_elim] theorem tr_bin {P : Expr → Prop} {op : Bop} {a : E} {b : E} {x : Expr} (h : trE sc ns (.bin op a b) x = true) (k : ∀ (l : Expr) (r : Expr) (p : Pos), trE sc ns a l = true → trE sc ns b r = true → P (.BinOp l (opOf op) r p)) : P x :=
 have h : (vBin x fun l o r p => isIt o (opOf op) (trE sc ns a l && trE sc ns b r)) = true := h
 vBin_inv h fun l o r p h => isIt_inv h fun h => an h fun h1 h2 => k l r p h1 h2
@[elab_as_elim] theorem tr_neg {P : Expr → Prop} {a : E} {x : Expr} (h : trE sc ns (.neg a) x = true) (k : ∀ (y : Expr) (p : Pos), trE sc ns a y = true → P (.UnaryOp .USub y p)) : P x :=
 have h : (vUn x fun o y p => isIt o .USub (trE sc ns a y)) = true := h
 vUn_inv h fun o y p h => isIt_inv h fun h => k y p h
@[elab_as_elim] theorem tr_not {P : Expr → Prop} {a : E} {x : Expr} (h : trE sc ns (.not a) x = true) (k : ∀ (y : Expr) (p : Pos), trE sc ns a y = true → P (.UnaryOp .Not y p)) : P x :=
 have h : (vUn x fun o y p => isIt o .Not (trE sc ns a y)) = true := h
 vUn_inv h fun o y p h => isIt_inv h fun h => k y p h
@[elab_as_elim] theorem tr_cmp {P : Expr → Prop} {op : Cop} {a : E} {b : E} {x : Expr} (h : trE sc ns (.cmp op a b) x = true) (k : ∀ (l : Expr) (r : Expr) (p : Pos), trE sc ns a l = true → trE sc ns b r = true → notSet r = true → P (.Compare l [copOf op] [r] p)) : P x :=
 have h : (vCmp x fun l os rs p => l1 os fun o => l1 rs fun r => isIt o (copOf op) (trE sc ns a l && (trE sc ns b r && notSet r))) = true := h
 vCmp_inv h fun l os rs p h => l1_inv h fun o h => l1_inv h fun r h => isIt_inv h fun h => an h fun h1 h => an h fun h2 h3 => k l r p h1 h2 h3
@[elab_as_elim] theorem tr_chain {P : Expr → Prop} {a : E} {b : E} {c : E} {x : Expr} (h : trE sc ns (.chain a b c) x = true) (k : ∀ (l : Expr) (m : Expr) (r : Expr) (p : Pos), trE sc ns a l = true → trE sc ns b m = true → trE sc ns c r = true → notSet r = true → P (.Compare l [.LtE, .LtE] [m, r] p)) : P x :=
 have h : (vCmp x fun l os rs p => l2 os fun o o2 => l2 rs fun m r => isIt o .LtE (isIt o2 .LtE (trE sc ns a l && (trE sc ns b m && (trE sc ns c r && notSet r))))) = true := h
 vCmp_inv h fun l os rs p h => l2_inv h fun o o2 h => l2_inv h fun m r h => isIt_inv h fun h => isIt_inv h fun h => an h fun h1 h => an h fun h2 h => an h fun h3 h4 => k l m r p h1 h2 h3 h4
@[elab_as_elim] theorem tr_and {P : Expr → Prop} {es : Es} {x : Expr} (h : trE sc ns (.and es) x = true) (k : ∀ (xs : (List Expr)) (p : Pos), trEs sc ns es xs = true → 2 ≤ xs.length → P (.BoolOp .And xs p)) : P x :=
 have h : (vBOp x fun o xs p => isIt o .And (trEs sc ns es xs && decide (2 ≤ xs.length))) = true := h
 vBOp_inv h fun o xs p h => isIt_inv h fun h => an h fun h1 h2 => k xs p h1 (of_decide_eq_true h2)
@[elab_as_elim] theorem tr_or {P : Expr → Prop} {es : Es} {x : Expr} (h : trE sc ns (.or es) x = true) (k : ∀ (xs : (List Expr)) (p : Pos), trEs sc ns es xs = true → 2 ≤ xs.length → P (.BoolOp .Or xs p)) : P x :=
 have h : (vBOp x fun o xs p => isIt o .Or (trEs sc ns es xs && decide (2 ≤ xs.length))) = true := h
 vBOp_inv h fun o xs p h => isIt_inv h fun h => an h fun h1 h2 => k xs p h1 (of_decide_eq_true h2)
@[elab_as_elim] theorem tr_ite {P : Expr → Prop} {t : E} {a : E} {b : E} {x : Expr} (h : trE sc ns (.ite t a b) x = true) (k : ∀ (y : Expr) (l : Expr) (r : Expr) (p : Pos), trE sc ns t y = true → trE sc ns a l = true → trE sc ns b r = true → P (.IfExp y l r p)) : P x :=
 have h : (vIf x fun y l r p => trE sc ns t y && (trE sc ns a l && trE sc ns b r)) = true := h
 vIf_inv h fun y l r p h => an h fun h1 h => an h fun h2 h3 => k y l r p h1 h2 h3
@[elab_as_elim] theorem tr_tup {P : Expr → Prop} {es : Es} {x : Expr} (h : trE sc ns (.tup es) x = true) (k : ∀ (xs : (List Expr)) (kk : Nat) (p : Pos), trEs sc ns es xs = true → xs.length ≤ 1000 → P (.Tuple xs kk p)) : P x :=
 have h : (vTup x fun xs kk p => trEs sc ns es xs && decide (xs.length ≤ 1000)) = true := h
 vTup_inv h fun xs kk p h => an h fun h1 h2 => k xs kk p h1 (of_decide_eq_true h2)
@[elab_as_elim] theorem tr_il {P : Expr → Prop} {es : Es} {x : Expr} (h : trE sc ns (.il es) x = true) (k : ∀ (xs : (List Expr)) (p : Pos), trEs sc ns es xs = true → xs.length ≤ 1000 → P (.List xs p)) : P x :=
 have h : (vList x fun xs p => trEs sc ns es xs && decide (xs.length ≤ 1000)) = true := h
 vList_inv h fun xs p h => an h fun h1 h2 => k xs p h1 (of_decide_eq_true h2)
@[elab_as_elim] theorem tr_ml {P : Expr → Prop} {es : Es} {x : Expr} (h : trE sc ns (.ml es) x = true) (k : ∀ (xs : (List Expr)) (p : Pos), trEs sc ns es xs = true → xs.length ≤ 1000 → P (.List xs p)) : P x :=
 have h : (vList x fun xs p => trEs sc ns es xs && decide (xs.length ≤ 1000)) = true := h
 vList_inv h fun xs p h => an h fun h1 h2 => k xs p h1 (of_decide_eq_true h2)
@[elab_as_elim] theorem tr_idx {P : Expr → Prop} {a : E} {i : E} {x : Expr} (h : trE sc ns (.idx a i) x = true) (k : ∀ (l : Expr) (r : Expr) (p : Pos), trE sc ns a l = true → trE sc ns i r = true → notSlice r = true → P (.Subscript l r p)) : P x :=
 have h : (vSub x fun l r p => trE sc ns a l && (trE sc ns i r && notSlice r)) = true := h
 vSub_inv h fun l r p h => an h fun h1 h => an h fun h2 h3 => k l r p h1 h2 h3
@[elab_as_elim] theorem tr_slice {P : Expr → Prop} {a : E} {lo : E} {hi : E} {x : Expr} (h : trE sc ns (.slice a lo hi) x = true) (k : ∀ (l : Expr) (y : (Option Expr)) (z : (Option Expr)) (q : Pos) (p : Pos), trE sc ns a l = true → trO lo.isNo (trE sc ns lo) y = true → trO hi.isNo (trE sc ns hi) z = true → P (.Subscript l (.Slice y z none q) p)) : P x :=
 have h : (vSub x fun l r p => vSl r fun y z t q => oN t (trE sc ns a l && (trO lo.isNo (trE sc ns lo) y && trO hi.isNo (trE sc ns hi) z))) = true := h
 vSub_inv h fun l r p h => vSl_inv h fun y z t q h => oN_inv h fun h => an h fun h1 h => an h fun h2 h3 => k l y z q p h1 h2 h3
@[elab_as_elim] theorem tr_call {P : Expr → Prop} {f : Nat} {es : Es} {x : Expr} (h : trE sc ns (.call f es) x = true) (k : ∀ (n : Str) (q : Pos) (xs : (List Expr)) (p : Pos), fnNames[f]? = some n → glob? sc n = true → trEs sc ns es xs = true → xs.length ≤ 20 → P (.Call (.Name n q) xs [] p)) : P x :=
 have h : (vCall x fun g xs ks p => vName g fun n q => l0 ks (decide (fnNames[f]? = some n) && (glob? sc n && (trEs sc ns es xs && decide (xs.length ≤ 20))))) = true := h
 vCall_inv h fun g xs ks p h => vName_inv h fun n q h => l0_inv h fun h => an h fun h1 h => an h fun h2 h => an h fun h3 h4 => k n q xs p (of_decide_eq_true h1) h2 h3 (of_decide_eq_true h4)
@[elab_as_elim] theorem tr_bi {P : Expr → Prop} {b : Bi} {es : Es} {x : Expr} (h : trE sc ns (.bi b es) x = true) (k : ∀ (q : Pos) (xs : (List Expr)) (p : Pos), glob? sc (biName b) = true → trEs sc ns es xs = true → xs.length ≤ 20 → P (.Call (.Name (biName b) q) xs [] p)) : P x :=
 have h : (vCall x fun g xs ks p => vName g fun n q => l0 ks (isIt n (biName b) (glob? sc (biName b) && (trEs sc ns es xs && decide (xs.length ≤ 20))))) = true := h
 vCall_inv h fun g xs ks p h => vName_inv h fun n q h => l0_inv h fun h => isIt_inv h fun h => an h fun h2 h => an h fun h3 h4 => k q xs p h2 h3 (of_decide_eq_true h4)
@[elab_as_elim] theorem tr_me {P : Expr → Prop} {m : Me} {a : E} {es : Es} {x : Expr} (h : trE sc ns (.me m a es) x = true) (k : ∀ (o : Expr) (ap : Pos) (xs : (List Expr)) (p : Pos), (ap.endLine == p.line) = true → notCall o = true → trE sc ns a o = true → trEs sc ns es xs = true → xs.length ≤ 20 → P (.Call (.Attribute o (meName m) ap) xs [] p)) : P x :=
 have h : (vCall x fun g xs ks p => vAt g fun o n ap => l0 ks (isIt n (meName m) (ap.endLine == p.line && (notCall o && (trE sc ns a o && (trEs sc ns es xs && decide (xs.length ≤ 20))))))) = true := h
 vCall_inv h fun g xs ks p h => vAt_inv h fun o n ap h => l0_inv h fun h => isIt_inv h fun h => an h fun h1 h => an h fun h2 h => an h fun h3 h => an h fun h4 h5 => k o ap xs p h1 h2 h3 h4 (of_decide_eq_true h5)
@[elab_as_elim] theorem tr_inEsc {P : Expr → Prop} {a : E} {x : Expr} (h : trE sc ns (.inEsc a) x = true) (k : ∀ (l : Expr) (q : Pos) (p : Pos), glob? sc ("SHORT_ESCAPES" : Str) = true → trE sc ns a l = true → P (.Compare l [.In] [.Name "SHORT_ESCAPES" q] p)) : P x :=
 have h : (vCmp x fun l os rs p => l1 os fun o => l1 rs fun r => isIt o .In (vName r fun n q => isIt n ("SHORT_ESCAPES" : Str) (glob? sc ("SHORT_ESCAPES" : Str) && trE sc ns a l))) = true := h
 vCmp_inv h fun l os rs p h => l1_inv h fun o h => l1_inv h fun r h => isIt_inv h fun h => vName_inv h fun n q h => isIt_inv h fun h => an h fun h1 h2 => k l q p h1 h2
@[elab_as_elim] theorem tr_getEsc {P : Expr → Prop} {a : E} {x : Expr} (h : trE sc ns (.getEsc a) x = true) (k : ∀ (q : Pos) (r : Expr) (p : Pos), glob? sc ("SHORT_ESCAPES" : Str) = true → trE sc ns a r = true → notSlice r = true → P (.Subscript (.Name "SHORT_ESCAPES" q) r p)) : P x :=
 have h : (vSub x fun l r p => vName l fun n q => isIt n ("SHORT_ESCAPES" : Str) (glob? sc ("SHORT_ESCAPES" : Str) && (trE sc ns a r && notSlice r))) = true := h
 vSub_inv h fun l r p h => vName_inv h fun n q h => isIt_inv h fun h => an h fun h1 h => an h fun h2 h3 => k q r p h1 h2 h3
@[elab_as_elim] theorem tr_closer {P : Expr → Prop} {a : E} {x : Expr} (h : trE sc ns (.closer a) x = true) (k : ∀ (q : Pos) (ap : Pos) (y : Expr) (z : Expr) (p : Pos), (ap.endLine == p.line) = true → glob? sc ("CLOSERS" : Str) = true → trE sc ns a y = true → trE sc ns a z = true → notStar y = true → notStar z = true → a.isLoc = true → P (.Call (.Attribute (.Name "CLOSERS" q) "get" ap) [y, z] [] p)) : P x :=
 have h : (vCall x fun g xs ks p => vAt g fun o m ap => vName o fun n q => l2 xs fun y z => l0 ks (isIt n ("CLOSERS" : Str) (isIt m ("get" : Str) (ap.endLine == p.line && (glob? sc ("CLOSERS" : Str) && (trE sc ns a y && (trE sc ns a z && (notStar y && (notStar z && a.isLoc))))))))) = true := h
 vCall_inv h fun g xs ks p h => vAt_inv h fun o m ap h => vName_inv h fun n q h => l2_inv h fun y z h => l0_inv h fun h => isIt_inv h fun h => isIt_inv h fun h => an h fun h1 h => an h fun h2 h => an h fun h3 h => an h fun h4 h => an h fun h5 h => an h fun h6 h7 => k q ap y z p h1 h2 h3 h4 h5 h6 h7
@[elab_as_elim] theorem tr_comp {P : Expr → Prop} {cs : (List Nat)} {elt : E} {it : E} {cond : E} {x : Expr} (h : trE sc ns (.comp cs elt it cond) x = true) (k : ∀ (e : Expr) (t : Str) (q : Pos) (it0 : Expr) (ifs : (List Expr)) (sc2 : Scope) (p : Pos), compScope sc2 t (caps ns cs) = true → (caps ns cs).length = cs.length → ((caps ns cs).all fun n => sc.names.lookup n == some .cell) = true → trE sc ns it it0 = true → notSet it0 = true → trE sc2 (t :: caps ns cs) elt e = true → trIfs cond.isYes (trE sc2 (t :: caps ns cs) cond) ifs = true → P (.ListComp e [⟨.Name t q, it0, ifs, 0⟩] sc2 p)) : P x :=
 have h : (vComp x fun e gs sc2 p => l1 gs fun g => vGen g fun tg it0 ifs a => vName tg fun t q => isIt a 0 (compScope sc2 t (caps ns cs) && (decide ((caps ns cs).length = cs.length) && (((caps ns cs).all fun n => sc.names.lookup n == some .cell) && (trE sc ns it it0 && (notSet it0 && (trE sc2 (t :: caps ns cs) elt e && trIfs cond.isYes (trE sc2 (t :: caps ns cs) cond) ifs))))))) = true := h
 vComp_inv h fun e gs sc2 p h => l1_inv h fun g h => vGen_inv h fun tg it0 ifs a h => vName_inv h fun t q h => isIt_inv h fun h => an h fun h1 h => an h fun h2 h => an h fun h3 h => an h fun h4 h => an h fun h5 h => an h fun h6 h7 => k e t q it0 ifs sc2 p h1 (of_decide_eq_true h2) h3 h4 h5 h6 h7
@[elab_as_elim] theorem vHan_inv {P : ExceptHandler → Prop} {x : ExceptHandler} {f : Option Expr → Option Str → List Stmt → Pos → Bool} (h : vHan x f = true) (k : ∀ a b c d, f a b c d = true → P (.ExceptHandler a b c d)) : P x := by cases x; exact k _ _ _ _ h
@[elab_as_elim] theorem trs_assign {P : Stmt → Prop} {i : Nat} {e : E} {x : Stmt} (h : trS sc ns (.assign i e) x = true) (k : ∀ (n : Str) (q : Pos) (v : Expr) (p : Pos), ns[i]? = some n → trE sc ns e v = true → notComp3 v = true → P (.Assign [.Name n q] v p)) : P x :=
 have h : (vAsg x fun ts v p => l1 ts fun t => vName t fun n q => decide (ns[i]? = some n) && (trE sc ns e v && notComp3 v)) = true := h
 vAsg_inv h fun ts v p h => l1_inv h fun t h => vName_inv h fun n q h => an h fun h1 h => an h fun h2 h3 => k n q v p (of_decide_eq_true h1) h2 h3
@[elab_as_elim] theorem trs_assignT {P : Stmt → Prop} {is : (List Nat)} {e : E} {x : Stmt} (h : trS sc ns (.assignT is e) x = true) (k : ∀ (xs : (List Expr)) (kk : Nat) (q : Pos) (v : Expr) (p : Pos), namesAre ns is xs = true → trE sc ns e v = true → notComp v = true → P (.Assign [.Tuple xs kk q] v p)) : P x :=
 have h : (vAsg x fun ts v p => l1 ts fun t => vTup t fun xs kk q => namesAre ns is xs && (trE sc ns e v && notComp v)) = true := h
 vAsg_inv h fun ts v p h => l1_inv h fun t h => vTup_inv h fun xs kk q h => an h fun h1 h => an h fun h2 h3 => k xs kk q v p h1 h2 h3
@[elab_as_elim] theorem trs_setIdx {P : Stmt → Prop} {a : E} {i : E} {e : E} {x : Stmt} (h : trS sc ns (.setIdx a i e) x = true) (k : ∀ (l : Expr) (r : Expr) (q : Pos) (v : Expr) (p : Pos), trE sc ns e v = true → trE sc ns a l = true → trE sc ns i r = true → notSlice r = true → notComp3 v = true → P (.Assign [.Subscript l r q] v p)) : P x :=
 have h : (vAsg x fun ts v p => l1 ts fun t => vSub t fun l r q => trE sc ns e v && (trE sc ns a l && (trE sc ns i r && (notSlice r && notComp3 v)))) = true := h
 vAsg_inv h fun ts v p h => l1_inv h fun t h => vSub_inv h fun l r q h => an h fun h1 h => an h fun h2 h => an h fun h3 h => an h fun h4 h5 => k l r q v p h1 h2 h3 h4 h5
@[elab_as_elim] theorem trs_aug {P : Stmt → Prop} {i : Nat} {op : Bop} {e : E} {x : Stmt} (h : trS sc ns (.aug i op e) x = true) (k : ∀ (n : Str) (q : Pos) (v : Expr) (p : Pos), ns[i]? = some n → trE sc ns e v = true → (!(n == ("__classdict__" : Str))) = true → P (.AugAssign (.Name n q) (opOf op) v p)) : P x :=
 have h : (vAug x fun t o v p => vName t fun n q => isIt o (opOf op) (decide (ns[i]? = some n) && (trE sc ns e v && !(n == ("__classdict__" : Str))))) = true := h
 vAug_inv h fun t o v p h => vName_inv h fun n q h => isIt_inv h fun h => an h fun h1 h => an h fun h2 h3 => k n q v p (of_decide_eq_true h1) h2 h3
@[elab_as_elim] theorem trs_expr {P : Stmt → Prop} {e : E} {x : Stmt} (h : trS sc ns (.expr e) x = true) (k : ∀ (v : Expr) (p : Pos), trE sc ns e v = true → notComp v = true → P (.Expr v p)) : P x :=
 have h : (vEx x fun v p => trE sc ns e v && notComp v) = true := h
 vEx_inv h fun v p h => an h fun h1 h2 => k v p h1 h2
@[elab_as_elim] theorem trs_append {P : Stmt → Prop} {a : E} {e : E} {x : Stmt} (h : trS sc ns (.append a e) x = true) (k : ∀ (o : Expr) (ap : Pos) (y : Expr) (p2 : Pos) (p : Pos), (ap.endLine == p2.line) = true → notCall o = true → notStar y = true → trE sc ns a o = true → trE sc ns e y = true → P (.Expr (.Call (.Attribute o "append" ap) [y] [] p2) p)) : P x :=
 have h : (vEx x fun v p => vCall v fun g xs ks p2 => vAt g fun o n ap => l1 xs fun y => l0 ks (isIt n ("append" : Str) (ap.endLine == p2.line && (notCall o && (notStar y && (trE sc ns a o && trE sc ns e y)))))) = true := h
 vEx_inv h fun v p h => vCall_inv h fun g xs ks p2 h => vAt_inv h fun o n ap h => l1_inv h fun y h => l0_inv h fun h => isIt_inv h fun h => an h fun h1 h => an h fun h2 h => an h fun h3 h => an h fun h4 h5 => k o ap y p2 p h1 h2 h3 h4 h5
@[elab_as_elim] theorem trs_ite {P : Stmt → Prop} {c : E} {a : Ss} {b : Ss} {x : Stmt} (h : trS sc ns (.ite c a b) x = true) (k : ∀ (t : Expr) (u : (List Stmt)) (v : (List Stmt)) (p : Pos), trE sc ns c t = true → trSs sc ns a u = true → trSs sc ns b v = true → P (.If t u v p)) : P x :=
 have h : (vSIf x fun t u v p => trE sc ns c t && (trSs sc ns a u && trSs sc ns b v)) = true := h
 vSIf_inv h fun t u v p h => an h fun h1 h => an h fun h2 h3 => k t u v p h1 h2 h3
@[elab_as_elim] theorem trs_whl {P : Stmt → Prop} {c : E} {b : Ss} {x : Stmt} (h : trS sc ns (.whl c b) x = true) (k : ∀ (t : Expr) (u : (List Stmt)) (p : Pos), trE sc ns c t = true → trSs sc ns b u = true → P (.While t u [] p)) : P x :=
 have h : (vWh x fun t u v p => l0 v (trE sc ns c t && trSs sc ns b u)) = true := h
 vWh_inv h fun t u v p h => l0_inv h fun h => an h fun h1 h2 => k t u p h1 h2
@[elab_as_elim] theorem trs_forE {P : Stmt → Prop} {i : Nat} {it : E} {b : Ss} {x : Stmt} (h : trS sc ns (.forE i it b) x = true) (k : ∀ (n : Str) (q : Pos) (y : Expr) (u : (List Stmt)) (p : Pos), ns[i]? = some n → trE sc ns it y = true → notSet y = true → trSs sc ns b u = true → P (.For (.Name n q) y u [] p)) : P x :=
 have h : (vFor x fun t y u v p => vName t fun n q => l0 v (decide (ns[i]? = some n) && (trE sc ns it y && (notSet y && trSs sc ns b u)))) = true := h
 vFor_inv h fun t y u v p h => vName_inv h fun n q h => l0_inv h fun h => an h fun h1 h => an h fun h2 h => an h fun h3 h4 => k n q y u p (of_decide_eq_true h1) h2 h3 h4
@[elab_as_elim] theorem trs_forR {P : Stmt → Prop} {i : Nat} {m : E} {b : Ss} {x : Stmt} (h : trS sc ns (.forR i m b) x = true) (k : ∀ (n : Str) (q : Pos) (q2 : Pos) (z : Expr) (p2 : Pos) (u : (List Stmt)) (p : Pos), ns[i]? = some n → glob? sc ("range" : Str) = true → notStar z = true → trE sc ns m z = true → trSs sc ns b u = true → P (.For (.Name n q) (.Call (.Name "range" q2) [z] [] p2) u [] p)) : P x :=
 have h : (vFor x fun t y u v p => vName t fun n q => l0 v (vCall y fun g xs ks p2 => vName g fun rn q2 => l1 xs fun z => l0 ks (isIt rn ("range" : Str) (decide (ns[i]? = some n) && (glob? sc ("range" : Str) && (notStar z && (trE sc ns m z && trSs sc ns b u))))))) = true := h
 vFor_inv h fun t y u v p h => vName_inv h fun n q h => l0_inv h fun h => vCall_inv h fun g xs ks p2 h => vName_inv h fun rn q2 h => l1_inv h fun z h => l0_inv h fun h => isIt_inv h fun h => an h fun h1 h => an h fun h2 h => an h fun h3 h => an h fun h4 h5 => k n q q2 z p2 u p (of_decide_eq_true h1) h2 h3 h4 h5
@[elab_as_elim] theorem trs_brk {P : Stmt → Prop} {x : Stmt} (h : trS sc ns .brk x = true) (k : ∀ (p : Pos), P (.Break p)) : P x :=
 have h : (vBrk x fun p => true) = true := h
 vBrk_inv h fun p _ => k p
@[elab_as_elim] theorem trs_cont {P : Stmt → Prop} {x : Stmt} (h : trS sc ns .cont x = true) (k : ∀ (p : Pos), P (.Continue p)) : P x :=
 have h : (vCont x fun p => true) = true := h
 vCont_inv h fun p _ => k p
@[elab_as_elim] theorem trs_ret {P : Stmt → Prop} {e : E} {x : Stmt} (h : trS sc ns (.ret e) x = true) (k : ∀ (v : Expr) (p : Pos), trE sc ns e v = true → P (.Return (some v) p)) : P x :=
 have h : (vRet x fun v p => oS v (trE sc ns e)) = true := h
 vRet_inv h fun v p h => oS_inv h fun v h => k v p h
@[elab_as_elim] theorem trs_raise {P : Stmt → Prop} {e : E} {x : Stmt} (h : trS sc ns (.raise e) x = true) (k : ∀ (q : Pos) (y : Expr) (kk : Nat) (p3 : Pos) (p2 : Pos) (p : Pos), glob? sc ("SyntaxDie" : Str) = true → notStar y = true → trE sc ns e y = true → e.isStr = true → P (.Raise (some (.Call (.Name "SyntaxDie" q) [y, .Constant (.int 0) kk p3] [] p2)) none p)) : P x :=
 have h : (vRs x fun a b p => oN b (oS a fun y => vCall y fun g xs ks p2 => vName g fun n q => l2 xs fun y z => l0 ks (vConst z fun c kk p3 => kInt c fun j => isIt j 0 (isIt n ("SyntaxDie" : Str) (glob? sc ("SyntaxDie" : Str) && (notStar y && (trE sc ns e y && e.isStr))))))) = true := h
 vRs_inv h fun a b p h => oN_inv h fun h => oS_inv h fun y h => vCall_inv h fun g xs ks p2 h => vName_inv h fun n q h => l2_inv h fun y z h => l0_inv h fun h => vConst_inv h fun c kk p3 h => kInt_inv h fun j h => isIt_inv h fun h => isIt_inv h fun h => an h fun h1 h => an h fun h2 h => an h fun h3 h4 => k q y kk p3 p2 p h1 h2 h3 h4
@[elab_as_elim] theorem trs_tryS {P : Stmt → Prop} {b : Ss} {i : Nat} {e : E} {x : Stmt} (h : trS sc ns (.tryS b i e) x = true) (k : ∀ (u : (List Stmt)) (q : Pos) (t : Str) (q3 : Pos) (w : Expr) (p3 : Pos) (p2 : Pos) (p : Pos), glob? sc ("SyntaxDie" : Str) = true → trSs sc ns b u = true → ns[i]? = some t → trE sc ns e w = true → (e.isLoc || e.isStr) = true → P (.Try u [.ExceptHandler (some (.Name "SyntaxDie" q)) none [.Assign [.Name t q3] w p3] p2] [] [] p)) : P x :=
 have h : (vTry x fun u hs v z p => l0 v (l0 z (l1 hs fun h => vHan h fun ty nm bd p2 => oN nm (oS ty fun y => vName y fun n q => l1 bd fun st => vAsg st fun ts w p3 => l1 ts fun t => vName t fun tn q3 => isIt n ("SyntaxDie" : Str) (glob? sc ("SyntaxDie" : Str) && (trSs sc ns b u && (decide (ns[i]? = some tn) && (trE sc ns e w && (e.isLoc || e.isStr))))))))) = true := h
 vTry_inv h fun u hs v z p h => l0_inv h fun h => l0_inv h fun h => l1_inv h fun hd h => vHan_inv h fun ty nm bd p2 h => oN_inv h fun h => oS_inv h fun y h => vName_inv h fun n q h => l1_inv h fun st h => vAsg_inv h fun ts w p3 h => l1_inv h fun t h => vName_inv h fun tn q3 h => isIt_inv h fun h => an h fun h1 h => an h fun h2 h => an h fun h3 h => an h fun h4 h5 => k u q tn q3 w p3 p2 p h1 h2 (of_decide_eq_true h3) h4 h5
@[elab_as_elim] theorem trEs_nil {P : List Expr → Prop} {xs : List Expr} (h : trEs sc ns .nil xs = true) (k : P []) : P xs := have h : l0 xs true = true := h
 l0_inv h fun _ => k
@[elab_as_elim] theorem trEs_cons {P : List Expr → Prop} {e : E} {es : Es} {xs : List Expr} (h : trEs sc ns (.cons e es) xs = true) (k : ∀ x r, trE sc ns e x = true → notStar x = true → trEs sc ns es r = true → P (x :: r)) : P xs :=
 have h : lc xs (fun x r => trE sc ns e x && (notStar x && trEs sc ns es r)) = true := h
 lc_inv h fun x r h => an h fun h1 h => an h fun h2 h3 => k x r h1 h2 h3
@[elab_as_elim] theorem trSs_nil {P : List Stmt → Prop} {xs : List Stmt} (h : trSs sc ns .nil xs = true) (k : P []) : P xs := have h : l0 xs true = true := h
 l0_inv h fun _ => k
@[elab_as_elim] theorem trSs_cons {P : List Stmt → Prop} {s : S} {ss : Ss} {xs : List Stmt} (h : trSs sc ns (.cons s ss) xs = true) (k : ∀ x r, trS sc ns s x = true → trSs sc ns ss r = true → P (x :: r)) : P xs :=
 have h : lc xs (fun x r => trS sc ns s x && trSs sc ns ss r) = true := h
 lc_inv h fun x r h => an h fun h1 h2 => k x r h1 h2
@[elab_as_elim] theorem names_nil {P : List Expr → Prop} {xs : List Expr} (h : namesAre ns [] xs = true) (k : P []) : P xs := have h : l0 xs true = true := h
 l0_inv h fun _ => k
@[elab_as_elim] theorem names_cons {P : List Expr → Prop} {i : Nat} {is : List Nat} {xs : List Expr} (h : namesAre ns (i :: is) xs = true) (k : ∀ n q r, ns[i]? = some n → namesAre ns is r = true → P (.Name n q :: r)) : P xs :=
 have h : lc xs (fun x s => vName x fun n _ => decide (ns[i]? = some n) && namesAre ns is s) = true := h
 lc_inv h fun x r h => vName_inv (P := fun x => P (x :: r)) h fun n q h => an h fun h1 h2 => k n q r (of_decide_eq_true h1) h2
end
noncomputable def plainParams (a : Arguments) (ps : List Str) : Bool :=
 a.posonlyargs.isEmpty && a.vararg.isNone && a.kwonlyargs.isEmpty && a.kwarg.isNone && a.defaults.isEmpty && decide (a.args.map (·.arg) = ps)
end Mine
end
section
open PySem PySem.W PyProof.Rows PySem.Calls
namespace Mine
noncomputable def FrOK (h base : Heap) (l : List Env) : Prop :=
 ∀ env ∈ l, env.scope.kind ≠ .module ∧ ∃ L o es n, env.frame = some L ∧ base.get? L = none ∧ h.get? L = some o ∧ o.data = .dict es n
theorem FrOK.live {h h' base : Heap} {l : List Env} (f : FrOK h base l)
   (d : ∀ b o es n, h.get? b = some o → o.data = .dict es n → ∃ o' es' n', h'.get? b = some o' ∧ o'.data = .dict es' n') : FrOK h' base l := fun env he => by
 obtain ⟨k, L, o, es, n, h1, h2, h3, h4⟩ := f env he
 obtain ⟨o', es', n', h5, h6⟩ := d L o es n h3 h4
 exact ⟨k, L, o', es', n', h1, h2, h5, h6⟩
theorem FrOK.step {h h' base : Heap} {l : List Env} {X ρ ρ'} (f : FrOK h base l) (s : Step X ρ h ρ' h') : FrOK h' base l := f.live s.ex.dicts
theorem FrOK.tail {h base : Heap} {env : Env} {l : List Env} (f : FrOK h base (env :: l)) : FrOK h base l := fun e he => f e (.tail _ he)
theorem FrOK.fun {h base B : Heap} : ∀ {l : List Env}, FrOK h base l → (∀ env ∈ l, ∀ L, env.frame = some L → B.get? L = none) → h.FunFrames B l
 | [], _, _ => trivial
 | env :: r, f, hb => by
   obtain ⟨k, L, o, es, n, h1, h2, h3, h4⟩ := f env (.head _)
   exact ⟨k, ⟨L, o, h1, hb env (.head _) L h1, h3, fun vs q => by rw [h4] at q; cases q⟩, FrOK.fun f.tail fun e he => hb e (.tail _ he)⟩
noncomputable def ExcS (base h : Heap) (l : List Env) (hr : Heap) (e : Addr) (C : Value) (h' : Heap) : Prop :=
 (∃ (oe : Obj) (vs : Array Value) (a0 : Value), (∀ b o, hr.get? b = some o → h'.get? b = some o) ∧ hr.get? e = none ∧ h'.get? e = some oe ∧ oe.cls = C ∧ oe.data = .fields vs ∧ vs[0]? = some a0 ∧ vs[1]? = some .none ∧ FrOK hr base l)
 ∨ ∃ (B : Heap) (fs : List Addr) (a0 : Value), base.StaysIn B ∧ ((∀ a ∈ fs, a ∈ l.filterMap (·.frame) ∨ h.get? a = none) ∧ ∀ a ∈ fs, ∃ o es n, hr.get? a = some o ∧ o.data = .dict es n) ∧ (∀ b o, hr.get? b = some o → b ∉ fs → B.get? b = some o) ∧ hr.UpToSlots h' ∧
     (Heap.FlyingW B l e C a0 h' ∨ ∃ env r L, l = env :: r ∧ env.frame = some L ∧ Heap.HeldW B l e C a0 L h')
theorem ExcS.back {base h₀ h : Heap} {l hr e C h'} (x : ExcS base h l hr e C h') (lv : ∀ b o, h₀.get? b = some o → ∃ o', h.get? b = some o') : ExcS base h₀ l hr e C h' := by
 rcases x with x | ⟨B, fs, a0, h1, h2, r⟩
 · exact .inl x
 · refine .inr ⟨B, fs, a0, h1, ⟨fun a ha => (h2.1 a ha).imp id fun q => ?_, h2.2⟩, r⟩
   cases e : h₀.get? a with
   | none => rfl
   | some o => obtain ⟨o', e'⟩ := lv a o e; rw [q] at e'; cases e'
theorem frs {hr base : Heap} {l : List Env} (fr : FrOK hr base l) : ∀ a ∈ l.filterMap (·.frame), ∃ o es n, hr.get? a = some o ∧ o.data = .dict es n := fun a ha => by
 obtain ⟨env, he, hx⟩ := List.mem_filterMap.mp ha
 obtain ⟨_, L, o, es, n, q1, _, q3, q4⟩ := fr env he
 rw [hx] at q1; cases q1
 exact ⟨o, es, n, q3, q4⟩
section
variable {M : Model} {A : Around} {E : Value → Shared → Prop} {s : Shared}
theorem leave_exc {base h h₀ hr : Heap} {env : Env} {outer : List Env} {L e : Addr} {C : Value} {Q : Unit → Shared → Prop} (hf : env.frame = some L) (hfr : A.frames = some (env :: outer))
   (hkb : base.StaysIn hr) (x : ExcS base h (env :: outer) hr e C s.heap) (hL : h₀.get? L = none) (lv : ∀ b o, h₀.get? b = some o → ∃ o', h.get? b = some o')
   (hQ : ∀ h', ExcS base h₀ outer hr e C h' → Q () { s with heap := h' }) : wpAny M A (leaving env (.ref e)) Q E s := by
 have lv' : ∀ a, h.get? a = none → h₀.get? a = none := fun a q => by
   cases e : h₀.get? a with
   | none => rfl
   | some o => obtain ⟨o', e'⟩ := lv a o e; rw [q] at e'; cases e'
 rcases x with ⟨oe, vs, a0, k, hn, he, hc, hd, h0, h1, fr⟩ | ⟨B, fs, a0, h1, h2, h3, hup, hfl | ⟨env', r, L', hl, hf', hh⟩⟩
 · -- made here
   have hbf : ∀ env' ∈ (env :: outer), ∀ a, env'.frame = some a → base.get? a = none := fun env' he' a ha => by
     obtain ⟨_, L', _, _, _, q1, q2, _⟩ := fr env' he'
     rw [ha] at q1; cases q1; exact q2
   have hB0 : base.StaysIn (hideAll hr ((env :: outer).filterMap (·.frame))) := fun b o q => hideAll_get _ (hkb b o q) fun hm => by
     obtain ⟨env', he', hx⟩ := List.mem_filterMap.mp hm
     rw [hbf env' he' b hx] at q; cases q
   refine wpAny_leaving_firstW (base := hideAll hr ((env :: outer).filterMap (·.frame))) hfr ?_ hf he (fun b o q => k b o (of_hideAll _ q)) ?_ hd h1 h0 fun h' hl => ?_
   · exact FrOK.fun (base := base) (fr.live fun b o es n q d => ⟨o, es, n, k b o q, d⟩) fun env' he' a ha => hideAll_none _ (List.mem_filterMap.mpr ⟨env', he', ha⟩)
   · cases q : (hideAll hr ((env :: outer).filterMap (·.frame))).get? e with
     | none => rfl
     | some o => have := of_hideAll _ q; rw [hn] at this; cases this
   · obtain ⟨k1, ⟨_, _, k2⟩, k3, k4⟩ := hl
     refine hQ h' (.inr ⟨_, (env :: outer).filterMap (·.frame), a0, hB0, ⟨fun a ha => ?_, frs fr⟩, fun b o q nb => hideAll_get _ q nb, fun b o q hnf => k4 b o (k b o q) hnf, .inl ⟨k1, ?_, k2, hc ▸ k3⟩⟩)
     · obtain ⟨env', he', hx⟩ := List.mem_filterMap.mp ha
       rcases List.mem_cons.mp he' with rfl | he'
       · rw [hf] at hx; cases hx; exact .inr hL
       · exact .inl (List.mem_filterMap.mpr ⟨env', he', hx⟩)
     · cases q : (hideAll hr ((env :: outer).filterMap (·.frame))).get? e with
       | none => rfl
       | some o => have := of_hideAll _ q; rw [hn] at this; cases this
 · refine wpAny_leaves_onW hfr hf hfl fun h' hfl' hup' => hQ h' (.inr ⟨B, fs, a0, h1, ⟨fun a ha => ?_, h2.2⟩, h3, hup.trans hup', .inl hfl'⟩)
   rcases h2.1 a ha with q | q
   · obtain ⟨env', he', hx⟩ := List.mem_filterMap.mp q
     rcases List.mem_cons.mp he' with rfl | he'
     · rw [hf] at hx; cases hx; exact .inr hL
     · exact .inl (List.mem_filterMap.mpr ⟨env', he', hx⟩)
   · exact .inr (lv' a q)
 · cases hl
   rw [hf] at hf'; cases hf'
   unfold leaving
   refine wpAny_bind (wpAny_noteFrame_againW hf hh.2.2.2 ?_)
   refine wpAny_landsW hh fun h' hfl hup' => hQ h' (.inr ⟨B, fs, a0, h1, ⟨fun a ha => ?_, h2.2⟩, h3, hup.trans hup', .inl ?_⟩)
   · rcases h2.1 a ha with q | q
     · obtain ⟨env', he', hx⟩ := List.mem_filterMap.mp q
       rcases List.mem_cons.mp he' with rfl | he'
       · rw [hf] at hx; cases hx; exact .inr hL
       · exact .inl (List.mem_filterMap.mpr ⟨env', he', hx⟩)
     · exact .inr (lv' a q)
   · obtain ⟨k1, k2, ⟨_, _, k3⟩, k4⟩ := hfl
     exact ⟨k1, k2, k3, k4⟩
theorem note_exc {base h hr : Heap} {env : Env} {outer : List Env} {L e : Addr} {C : Value} {Q : Unit → Shared → Prop} (hf : env.frame = some L) (hfr : A.frames = some (env :: outer))
   (hkb : base.StaysIn hr) (x : ExcS base h (env :: outer) hr e C s.heap)
   (hQ : ∀ (h' B : Heap) (fs : List Addr) (a0 : Value), base.StaysIn B → ((∀ a ∈ fs, a ∈ (env :: outer).filterMap (·.frame) ∨ h.get? a = none) ∧ ∀ a ∈ fs, ∃ o es n, hr.get? a = some o ∧ o.data = .dict es n) → (∀ b o, hr.get? b = some o → b ∉ fs → B.get? b = some o) → hr.UpToSlots h' →
     Heap.HeldW B (env :: outer) e C a0 L h' → Q () { s with heap := h' }) : wpAny M A (noteFrame (.ref e) env) Q E s := by
 rcases x with ⟨oe, vs, a0, k, hn, he, hc, hd, h0, h1, fr⟩ | ⟨B, fs, a0, h1, h2, h3, hup, hfl | ⟨env', r, L', hl, hf', hh⟩⟩
 · have hbf : ∀ env' ∈ (env :: outer), ∀ a, env'.frame = some a → base.get? a = none := fun env' he' a ha => by
     obtain ⟨_, L', _, _, _, q1, q2, _⟩ := fr env' he'
     rw [ha] at q1; cases q1; exact q2
   have hB0 : base.StaysIn (hideAll hr ((env :: outer).filterMap (·.frame))) := fun b o q => hideAll_get _ (hkb b o q) fun hm => by
     obtain ⟨env', he', hx⟩ := List.mem_filterMap.mp hm
     rw [hbf env' he' b hx] at q; cases q
   have hen : (hideAll hr ((env :: outer).filterMap (·.frame))).get? e = none := by
     cases q : (hideAll hr ((env :: outer).filterMap (·.frame))).get? e with
     | none => rfl
     | some o => have := of_hideAll _ q; rw [hn] at this; cases this
   unfold noteFrame
   simp only [hf]
   refine wpAny_bind (wpAny_field he hd h1 ?_)
   rw [if_neg (by decide)]
   refine wpAny_entryW (base := hideAll hr ((env :: outer).filterMap (·.frame))) hfr ?_ hf he (fun b o q => k b o (of_hideAll _ q)) hen hd (Array.getElem?_eq_some_iff.mp h1).1 h0 fun h' hl => ?_
   · exact FrOK.fun (base := base) (fr.live fun b o es n q d => ⟨o, es, n, k b o q, d⟩) fun env' he' a ha => hideAll_none _ (List.mem_filterMap.mpr ⟨env', he', ha⟩)
   · obtain ⟨k1, k2, k3, k4⟩ := hl
     exact hQ h' _ ((env :: outer).filterMap (·.frame)) a0 hB0 ⟨fun a ha => .inl ha, frs fr⟩ (fun b o q nb => hideAll_get _ q nb) (fun b o q hnf => k4 b o (k b o q) hnf) ⟨k1, hen, k2, hc ▸ k3⟩
 · exact wpAny_looks_onW hfr hf hfl fun h' hh hup' => hQ h' B fs a0 h1 h2 h3 (hup.trans hup') hh
 · cases hl
   rw [hf] at hf'; cases hf'
   exact wpAny_noteFrame_againW hf hh.2.2.2 (hQ s.heap B fs a0 h1 h2 h3 hup hh)
theorem setFlight_here {base : Heap} {l : List Env} {e L : Addr} {cls a0 : Value} {Q : Unit → Shared → Prop} (hh : Heap.HeldW base l e cls a0 L s.heap)
   (hQ : ∀ h', Heap.HeldW base l e cls a0 L h' → s.heap.UpToSlots h' → Q () { s with heap := h' }) : wpAny M A (setFlight (.ref e) (some L)) Q E s := by
 obtain ⟨hkb, hen, hl, oe, vs, T, oT, ts, he, hcls, hd, h1, hnT, hTe, hT, hdT, h3⟩ := hh
 have hsz3 := (Array.getElem?_eq_some_iff.mp h3).1
 have other : ∀ b, b ≠ T → (s.heap.update T (Obj.mapFields (·.setIfInBounds 3 (rawInt L)))).get? b = s.heap.get? b := fun b hb => Heap.get?_update_other _ _ (Ne.symm hb)
 have noRecord : ∀ b o, s.heap.get? b = some o → (∀ vs, o.data ≠ .fields vs) → b ≠ T := fun b o hb hnf q => by
   rw [q, hT] at hb; injection hb with hb; subst hb; exact hnf ts hdT
 unfold setFlight
 refine wpAny_bind (wpAny_field he hd h1 ?_)
 rw [if_pos (show (Value.ref T != Value.none) = true from by simp)]
 refine wpAny_setField hT hdT hsz3 (hQ _ ⟨fun b o hbo => (other b fun q => by rw [q, hnT] at hbo; cases hbo).trans (hkb b o hbo), hen,
   hl.of_keeps fun b o hb hnf => ⟨o, (other b (noRecord b o hb hnf)).trans hb, rfl⟩, ?_⟩ fun b o hb hnf => ⟨o.slots, (other b (noRecord b o hb hnf)).trans hb⟩)
 exact ⟨oe, vs, T, _, _, (other e (Ne.symm hTe)).trans he, hcls, hd, h1, hnT, hTe, Heap.get?_update_self _ hT (Obj.isFreed_of_fields (Obj.data_mapFields hdT _)), Obj.data_mapFields hdT _, by simp [hsz3]⟩
theorem loop_exc {base h hr : Heap} {env : Env} {outer : List Env} {L e : Addr} {C : Value} (hf : env.frame = some L) (hfr : A.frames = some (env :: outer))
   (hkb : base.StaysIn hr) (x : ExcS base h (env :: outer) hr e C s.heap)
   (hE : ∀ h', ExcS base h (env :: outer) hr e C h' → E (.ref e) { s with heap := h' }) : notedBy M A env (cameBackBy M A env E) (.ref e) s := by
 refine note_exc hf hfr hkb x fun h₁ B fs a0 h1 h2 h3 hup hh => ?_
 unfold cameBackBy
 obtain ⟨_, _, _, oe, vs, T, oT, ts, he, hcls, hd, hv1, _⟩ := id hh
 refine wpAny_bind (wpAny_field he hd hv1 ?_)
 rw [if_neg (show ¬ ((Value.ref T == Value.none) = true) from by simp)]
 rw [hf]
 exact setFlight_here hh fun h₂ hh₂ hup₂ => hE h₂ (.inr ⟨B, fs, a0, h1, h2, h3, hup.trans hup₂, .inr ⟨env, outer, L, rfl, hf, hh₂⟩⟩)
end
structure Aok (A : Around) (base h : Heap) (outer : List Env) (d : Nat) : Prop where
 handled : A.handled = none
 frames : A.frames = some outer
 depth : A.depth + d ≤ 900
 units : A.units + 3 * d ≤ 9000
 frs : FrOK h base outer
theorem Aok.step {A base h h' outer d X ρ ρ'} (a : Aok A base h outer d) (s : Step X ρ h ρ' h') : Aok A base h' outer d := { a with frs := a.frs.step s }
structure Same (s s' : Shared) : Prop where
 gens : s'.gens = s.gens
 os : s'.os = s.os
theorem Same.refl (s : Shared) : Same s s := ⟨rfl, rfl⟩
theorem Same.trans {s s' s'' : Shared} (x : Same s s') (y : Same s' s'') : Same s s'' := ⟨y.gens.trans x.gens, y.os.trans x.os⟩
noncomputable def Post {α β : Type} (R : List Addr → Heap → α → β → Prop) (base : Heap) (C : Value) (outer : List Env) (ρ : List Addr) (s : Shared) (r : O α) (Q : β → Shared → Prop) (E : Value → Shared → Prop) : Prop :=
 match r with
 | .ok v μ' => ∀ x ρ' s', Step [] ρ s.heap ρ' s'.heap → Inv base ρ' μ' s'.heap → R ρ' s'.heap v x → Same s s' → Q x s'
 | .exc μ' => ∀ e ρ' hr s', Step [] ρ s.heap ρ' hr → Inv base ρ' μ' hr → ExcS base s.heap outer hr e C s'.heap → Same s s' → E (.ref e) s'
 | .bad => False
section
variable {α β γ δ : Type} {R : List Addr → Heap → α → β → Prop} {R' : List Addr → Heap → γ → δ → Prop} {base : Heap} {C : Value} {outer : List Env} {ρ ρ₁ : List Addr} {s s₁ : Shared} {r : O α} {f : α → Mem → O γ}
   {Q : δ → Shared → Prop} {Q' : β → Shared → Prop} {E : Value → Shared → Prop}
theorem Post.mono {r : O γ} (h : Post R' base C outer ρ s r Q E) (st : Step [] ρ s.heap ρ₁ s₁.heap) (sm : Same s s₁) : Post R' base C outer ρ₁ s₁ r Q E := by
 cases r with
 | ok v μ => exact fun y ρ' s' st' I' r' sm' => h y ρ' s' (st.trans st') I' r' (sm.trans sm')
 | exc μ => exact fun e ρ' hr s' st' I' x' sm' => h e ρ' hr s' (st.trans st') I' (x'.back st.ex.live) (sm.trans sm')
 | bad => exact h
theorem Post.bindE (h : Post R' base C outer ρ s (B2 f r) Q E)
   (k : ∀ v μ₁ x ρ₁ s₁, r = .ok v μ₁ → Step [] ρ s.heap ρ₁ s₁.heap → Inv base ρ₁ μ₁ s₁.heap → R ρ₁ s₁.heap v x → Same s s₁ → Post R' base C outer ρ₁ s₁ (f v μ₁) Q E → Q' x s₁) :
   Post R base C outer ρ s r Q' E := by
 cases r with
 | ok v μ₁ => exact fun x ρ₁ s₁ st I r sm => k v μ₁ x ρ₁ s₁ rfl st I r sm (Post.mono (r := f v μ₁) h st sm)
 | exc μ₁ => exact h
 | bad => exact h
theorem Post.bind (h : Post R' base C outer ρ s (B2 f r) Q E)
   (k : ∀ v μ₁ x ρ₁ s₁, Step [] ρ s.heap ρ₁ s₁.heap → Inv base ρ₁ μ₁ s₁.heap → R ρ₁ s₁.heap v x → Same s s₁ → Post R' base C outer ρ₁ s₁ (f v μ₁) Q E → Q' x s₁) :
   Post R base C outer ρ s r Q' E := Post.bindE h fun v μ₁ x ρ₁ s₁ _ => k v μ₁ x ρ₁ s₁
theorem Post.bind1 (h : Post R' base C outer ρ s (B1 f r) Q E)
   (k : ∀ v μ₁ x ρ₁ s₁, Step [] ρ s.heap ρ₁ s₁.heap → Inv base ρ₁ μ₁ s₁.heap → R ρ₁ s₁.heap v x → Same s s₁ → Post R' base C outer ρ₁ s₁ (f v μ₁) Q E → Q' x s₁) : Post R base C outer ρ s r Q' E := Post.bind (f := f) (r := r) h k
end
end Mine
end
section
open PySem PySem.W PyProof.Rows PySem.Calls
namespace Mine
noncomputable def Good {α β : Type} (R : List Addr → Heap → α → β → Prop) (base : Heap) (ρ : List Addr) (μ : Mem) (s : Shared) (v : α) (Q : β → Shared → Prop) : Prop :=
 ∀ x ρ' s', Step [] ρ s.heap ρ' s'.heap → Inv base ρ' μ s'.heap → R ρ' s'.heap v x → Same s s' → Q x s'
section
variable {prog : Program} {w : World} {A : Around} {E : Value → Shared → Prop} {s : Shared} {base : Heap} {ρ : List Addr} {μ : Mem} {Q : Value → Shared → Prop} {a b c v : V} {x y : Value}
theorem Good.plain (I : Inv base ρ μ s.heap) (g : Good Rel base ρ μ s v Q) (r : Rel ρ s.heap v x) (k : Nat) : Q x { s with toks := k } := g x ρ _ (Step.refl ..) I r ⟨rfl, rfl⟩
theorem Good.plain' (I : Inv base ρ μ s.heap) (g : Good Rel base ρ μ s v Q) (r : Rel ρ s.heap v x) : Q x s := g x ρ _ (Step.refl ..) I r ⟨rfl, rfl⟩
theorem Good.grown (I : Inv base ρ μ s.heap) (g : Good Rel base ρ μ s v Q) {h' : Heap} (k : ∀ b o, s.heap.get? b = some o → h'.get? b = some o) (r : Rel ρ h' v x) (n : Nat) : Q x { s with heap := h', toks := n } :=
 g x ρ _ (Step.of_keeps k) (I.keeps k) r ⟨rfl, rfl⟩
theorem push_keeps {h : Heap} (o : Obj) : ∀ b o', h.get? b = some o' → (h.push o).get? b = some o' := fun _ _ e => Heap.get?_push_of_some _ e
theorem Inv.new {h : Heap} (I : Inv base ρ μ h) : h.objs.size ∉ ρ := fun q => by
 obtain ⟨vals, n, e⟩ := I.at q
 rw [Heap.get?_none_of_le (Nat.le_refl _)] at e; cases e
theorem Rel.newTup {h : Heap} {vs : List V} {xs : List Value} (I : Inv base ρ μ h) (r : RelL ρ h vs xs) (hl : xs.length ≤ LIM) : Rel ρ (h.push { cls := .type "tuple", data := .seq xs.toArray }) (.tup vs) (.ref h.objs.size) :=
 .tup ⟨0, Heap.get?_push_size _ rfl⟩ I.new hl (r.step (X := []) (Step.of_keeps (push_keeps _)))
theorem Rel.newIl {h : Heap} {vs : List V} {xs : List Value} (I : Inv base ρ μ h) (r : RelL ρ h vs xs) (hl : xs.length ≤ LIM) : Rel ρ (h.push { cls := .type "list", data := .seq xs.toArray }) (.il vs) (.ref h.objs.size) :=
 .il ⟨0, Heap.get?_push_size _ rfl⟩ I.new hl (r.step (X := []) (Step.of_keeps (push_keeps _)))
theorem str_len {l : List Nat} : (⟨l.toArray⟩ : Str).length = l.length := by simp [Str.length]
theorem LIM_fits {n : Nat} (h : n ≤ LIM) : n ≤ sizeLine := by unfold LIM at h; rw [sizeLine_eq]; lia
theorem LIM_fits2 {m n : Nat} (h : m ≤ LIM) (h' : n ≤ LIM) : m + n ≤ sizeLine := by unfold LIM at h h'; rw [sizeLine_eq]; lia
theorem str_cat {l m : List Nat} : ((⟨l.toArray⟩ : Str) ++ (⟨m.toArray⟩ : Str)) = ⟨(l ++ m).toArray⟩ := by
 show Str.mk _ = _; simp
@[elab_as_elim] theorem when_inv {α : Type} {p : Prop} [Decidable p] {a c : α} {P : α → Prop} (e : when p a = some c) (k : p → P a) : P c := by
 by_cases h : p
 · cases (show some a = some c from (if_pos h).symm.trans e); exact k h
 · cases (show Option.none = some c from (if_neg h).symm.trans e)
theorem nof {α : Type} {c : α} {R : Prop} (e : (none : Option α) = some c) : R := nomatch e
section
variable {α : Type} {c : α} {P : Value → Prop} {h : Heap} {u : V} {z : Value}
theorem onInt_rel {f : Int → Option α} (e : onInt u f = some c) (r : Rel ρ h u z) (k : ∀ i t, f i = some c → P (.int i t)) : P z := by
 cases u with
 | int i => exact r.intI fun t => k i t e
 | _ => exact nof e
theorem onBool_rel {f : Bool → Option α} (e : onBool u f = some c) (r : Rel ρ h u z) (k : ∀ i, f i = some c → P (.bool i)) : P z := by
 cases u with
 | bool i => exact r.boolI (k i e)
 | _ => exact nof e
theorem onStr_rel {f : List Nat → Option α} (e : onStr u f = some c) (r : Rel ρ h u z) (k : ∀ l t, l.length ≤ LIM → (∀ c ∈ l, c < 1114112) → f l = some c → P (.str ⟨l.toArray⟩ t)) : P z := by
 cases u with
 | str l => exact r.strI fun t h1 h2 => k l t h1 h2 e
 | _ => exact nof e
theorem onIl_rel {f : List V → Option α} (e : onIl u f = some c) (r : Rel ρ h u z) (k : ∀ vs a vals, SeqAt "list" h a vals → vals.length ≤ LIM → RelL ρ h vs vals → f vs = some c → P (.ref a)) : P z := by
 cases u with
 | il vs => exact r.ilI fun a vals h1 _ h3 h4 => k vs a vals h1 h3 h4 e
 | _ => exact nof e
theorem onRef_rel {f : Nat → Option α} (e : onRef u f = some c) (r : Rel ρ h u z) (k : ∀ i a, ρ[i]? = some a → f i = some c → P (.ref a)) : P z := by
 cases u with
 | ref i => exact r.refI fun a h1 => k i a h1 e
 | _ => exact nof e
theorem onNone_rel {f : Option α} (e : onNone u f = some c) (r : Rel ρ h u z) (k : f = some c → P .none) : P z := by
 cases u with
 | none => exact r.noneI (k e)
 | _ => exact nof e
theorem int2_rel {P : Value → Value → Prop} {b c : V} {y : Value} {f : Int → Int → Option V} (e : int2 f u b = some c) (ra : Rel ρ h u z) (rb : Rel ρ h b y) (k : ∀ i j t v, f i j = some c → P (.int i t) (.int j v)) : P z y :=
 onInt_rel (P := fun z => P z y) e ra fun i t e => onInt_rel (P := fun y => P (.int i t) y) e rb fun j v e => k i j t v e
theorem one_rel {P : List Value → Prop} {f : V → Option α} {vs : List V} {xs : List Value} (e : one vs f = some c) (r : RelL ρ h vs xs) (k : ∀ v x, Rel ρ h v x → f v = some c → P [x]) : P xs := by
 cases vs with
 | nil => exact nof e
 | cons v vs => cases vs with
   | nil => exact r.oneI fun x rx => k v x rx e
   | cons => exact nof e
theorem two_rel {P : List Value → Prop} {f : V → V → Option α} {vs : List V} {xs : List Value} (e : two vs f = some c) (r : RelL ρ h vs xs) (k : ∀ v u x y, Rel ρ h v x → Rel ρ h u y → f v u = some c → P [x, y]) : P xs := by
 cases vs with
 | nil => exact nof e
 | cons v vs => exact r.consI fun x ys h1 h2 => one_rel (P := fun ys => P (x :: ys)) e h2 fun u y h3 e => k v u x y h1 h3 e
@[elab_as_elim] theorem sign_inv {P : List Nat → Prop} {f : Nat → Option α} {l : List Nat} (e : sign l f = some c) (k : ∀ d, f d = some c → P [d]) : P l := by
 cases l with
 | nil => exact nof e
 | cons d r => cases r with
   | nil => exact k d e
   | cons => exact nof e
end
theorem str_app {l m : List Nat} {t : Tok} (hl : l.length + m.length ≤ LIM) (c1 : ∀ c ∈ l, c < 1114112) (c2 : ∀ c ∈ m, c < 1114112) : Rel ρ s.heap (.str (l ++ m)) (.str ((⟨l.toArray⟩ : Str) ++ (⟨m.toArray⟩ : Str)) t) := by
 rw [str_cat]
 exact .str _ _ (by rw [List.length_append]; exact hl) fun c hc => (List.mem_append.mp hc).elim (c1 c) (c2 c)
theorem str_fits {l m : List Nat} (h1 : l.length ≤ LIM) (h2 : m.length ≤ LIM) : (⟨l.toArray⟩ : Str).length + (⟨m.toArray⟩ : Str).length ≤ sizeLine := by rw [str_len, str_len]; exact LIM_fits2 h1 h2
theorem add_ok (I : Inv base ρ μ s.heap) (ra : Rel ρ s.heap a x) (rb : Rel ρ s.heap b y) (e : binV .add a b = some c) (g : Good Rel base ρ μ s c Q) : wpAny (model prog w) A (binaryOp .Add x y) Q E s := by
 cases a with
 | int i =>
   have e : int2 (fun i j => some (.int (i + j))) (.int i) b = some c := e
   exact int2_rel (P := fun x y => wpAny (model prog w) A (binaryOp .Add x y) Q E s) e ra rb fun i j t u e => by cases e; exact PySem.P.add_int (g.plain I (.int ..) _)
 | str l =>
   refine ra.strI fun t h1 c1 => onStr_rel (P := fun y => wpAny (model prog w) A (binaryOp .Add _ y) Q E s) e rb fun m u h2 c2 e => ?_
   revert g
   exact when_inv e fun hl g => PySem.SB.add (fun t' k => g.plain I (str_app hl c1 c2) k) (hsz := str_fits h1 h2)
 | il vs =>
   refine ra.ilI fun aa va sa _ la ma => onIl_rel (P := fun y => wpAny (model prog w) A (binaryOp .Add _ y) Q E s) e rb fun ws ab vb sb lb mb e => ?_
   revert g
   refine when_inv e fun hl g => ?_
   obtain ⟨n, ea⟩ := sa; obtain ⟨n', eb⟩ := sb
   refine PySem.P.add_list (items := va.toArray) (items2 := vb.toArray) ea eb ?_ (hsz := by simpa using LIM_fits2 la lb)
   rw [List.append_toArray]
   exact Good.grown (n := s.toks) I g (push_keeps _) (Rel.newIl I (ma.append mb) (by rw [List.length_append, ← ma.length, ← mb.length]; exact hl))
 | _ => exact nof e
theorem binop_ok {op : Bop} (I : Inv base ρ μ s.heap) (ra : Rel ρ s.heap a x) (rb : Rel ρ s.heap b y) (e : binV op a b = some c) (g : Good Rel base ρ μ s c Q) :
   wpAny (model prog w) A (binaryOp (opOf op) x y) Q E s := by
 cases op with
 | add => exact add_ok I ra rb e g
 | sub => exact int2_rel (P := fun x y => wpAny (model prog w) A (binaryOp .Sub x y) Q E s) e ra rb fun i j t u e => by cases e; exact PySem.P.sub_int (g.plain I (.int ..) _)
 | mul =>
   refine int2_rel (P := fun x y => wpAny (model prog w) A (binaryOp .Mult x y) Q E s) e ra rb fun i j t u e => ?_
   revert g
   exact when_inv e fun hl g => PySem.P.mul_int (g.plain I (.int ..) _) (hm := .of_left (intBits_le_64 (by lia) (by lia)))
 | mod =>
   refine int2_rel (P := fun x y => wpAny (model prog w) A (binaryOp .Mod x y) Q E s) e ra rb fun i j t u e => ?_
   revert g
   refine when_inv e fun hl g => PyProof.Rows.mod_int (by lia) ?_
   rw [Int.fmod_eq_emod_of_nonneg _ (by lia)]
   exact g.plain I (.int ..) _
 | pow =>
   refine int2_rel (P := fun x y => wpAny (model prog w) A (binaryOp .Pow x y) Q E s) e ra rb fun i j t u e => ?_
   revert g
   refine when_inv e fun hl g => ?_
   obtain ⟨rfl, rfl⟩ := hl
   exact PyProof.Rows.pow_int (by decide) (by decide +kernel) (g.plain I (.int ..) _)
 | xor => exact int2_rel (P := fun x y => wpAny (model prog w) A (binaryOp .BitXor x y) Q E s) e ra rb fun i j t u e => by cases e; exact PyProof.Rows.xor_int (g.plain I (.int ..) _)
theorem iadd_ok (I : Inv base ρ μ s.heap) (ra : Rel ρ s.heap a x) (rb : Rel ρ s.heap b y) (e : augV .add a b = some c) (g : Good Rel base ρ μ s c Q) : wpAny (model prog w) A (inplaceOp .Add x y) Q E s := by
 cases a with
 | int i =>
   have e : int2 (fun i j => some (.int (i + j))) (.int i) b = some c := e
   exact int2_rel (P := fun x y => wpAny (model prog w) A (inplaceOp .Add x y) Q E s) e ra rb fun i j t u e => by cases e; exact PySem.P.iadd_int (g.plain I (.int ..) _)
 | str l =>
   refine ra.strI fun t h1 c1 => onStr_rel (P := fun y => wpAny (model prog w) A (inplaceOp .Add _ y) Q E s) e rb fun m u h2 c2 e => ?_
   revert g
   exact when_inv e fun hl g => PySem.SB.iadd (fun t' k => g.plain I (str_app hl c1 c2) k) (hsz := str_fits h1 h2)
 | _ => exact nof e
theorem aug_ok {op : Bop} (I : Inv base ρ μ s.heap) (ra : Rel ρ s.heap a x) (rb : Rel ρ s.heap b y) (e : augV op a b = some c) (g : Good Rel base ρ μ s c Q) :
   wpAny (model prog w) A (inplaceOp (opOf op) x y) Q E s := by
 cases op with
 | add => exact iadd_ok I ra rb e g
 | sub => exact int2_rel (P := fun x y => wpAny (model prog w) A (inplaceOp .Sub x y) Q E s) e ra rb fun i j t u e => by cases e; exact PySem.P.isub_int (g.plain I (.int ..) _)
 | _ => exact nof e
theorem neg_ok {i : Int} (I : Inv base ρ μ s.heap) (ra : Rel ρ s.heap (.int i) x) (g : Good Rel base ρ μ s (.int (-i)) Q) : wpAny (model prog w) A (unaryOp .USub x) Q E s := by
 exact ra.intI fun t => PySem.P.neg_int (g.plain I (.int ..) _)
end
end Mine
end
section
open PySem PySem.W PyProof.Rows PySem.Calls
namespace Mine
noncomputable def pd (v : V) : PyData := @V.rec (fun _ => PyData) (fun _ => List PyData) .none .bool .int (fun s => .str ⟨s.toArray⟩) (fun _ r => .tuple r) (fun _ r => .list r) (fun _ => .none) [] (fun _ _ x r => x :: r) v
noncomputable def pds (vs : List V) : List PyData := @V.rec_1 (fun _ => PyData) (fun _ => List PyData) .none .bool .int (fun s => .str ⟨s.toArray⟩) (fun _ r => .tuple r) (fun _ r => .list r) (fun _ => .none) [] (fun _ _ x r => x :: r) vs
structure Rd (h : Heap) (x : Value) (d : PyData) (n : Nat) : Prop where
 reads : ∃ as, Reads h x d as
 lay : d.canLay0 = true
 deep : d.depth ≤ n
structure RdL (h : Heap) (xs : List Value) (ds : List PyData) (n : Nat) : Prop where
 reads : ∃ as, ReadsAll h xs ds as
 lay : PyData.canLayAll0 ds = true
 deep : PyData.depthAll ds ≤ n
section
variable {base : Heap} {ρ : List Addr} {μ : Mem} {h : Heap}
theorem RdL.tuple {a : Addr} {vals : List Value} {ds : List PyData} {n : Nat} (r : RdL h vals ds n) (s : SeqAt "tuple" h a vals) : Rd h (.ref a) (.tuple ds) (n + 1) :=
 let ⟨as, q⟩ := r.reads; let ⟨k, s⟩ := s; ⟨⟨_, reads_tuple_at s rfl rfl q⟩, r.lay, Nat.succ_le_succ r.deep⟩
theorem RdL.list {a : Addr} {vals : List Value} {ds : List PyData} {n : Nat} (r : RdL h vals ds n) (s : SeqAt "list" h a vals) : Rd h (.ref a) (.list ds) (n + 1) :=
 let ⟨as, q⟩ := r.reads; let ⟨k, s⟩ := s; ⟨⟨_, reads_list_at s rfl rfl q⟩, r.lay, Nat.succ_le_succ r.deep⟩
@[elab_as_elim] theorem mapI {α β : Type} {P : β → Prop} {f : α → β} {x : Option α} {c : β} (e : x.map f = some c) (k : ∀ a, x = some a → P (f a)) : P c := by
 cases x with
 | none => exact nof e
 | some a => cases e; exact k a rfl
theorem bindI {α β : Type} {R : Prop} {f : α → Option β} {x : Option α} {c : β} (e : x.bind f = some c) (k : ∀ a, x = some a → f a = some c → R) : R := by
 cases x with
 | none => exact nof e
 | some a => exact k a rfl e
theorem flat_reads (I : Inv base ρ μ h) : ∀ (n : Nat),
   (∀ {v t : V} {x : Value}, Rel ρ h v x → flat n μ v = some t → Rd h x (pd t) n) ∧
   (∀ {vs ts : List V} {xs : List Value}, RelL ρ h vs xs → flatL n μ vs = some ts → RdL h xs (pds ts) n) := by
 intro n
 induction n with
 | zero => exact ⟨fun _ e => nof e, fun _ e => nof e⟩
 | succ n ih =>
   refine ⟨fun {v t x} r e => ?_, fun {vs ts xs} r e => ?_⟩
   · cases v with
     | none => cases e; exact r.noneI ⟨⟨_, .none⟩, rfl, Nat.le_add_left ..⟩
     | bool b => cases e; exact r.boolI ⟨⟨_, .bool b⟩, rfl, Nat.le_add_left ..⟩
     | int i => cases e; exact r.intI fun tk => ⟨⟨_, .int i tk⟩, rfl, Nat.le_add_left ..⟩
     | str s =>
       cases e
       refine r.strI fun tk _ hc => ⟨⟨_, .str _ tk⟩, ?_, Nat.le_add_left ..⟩
       show PyData.strOk _ = true
       simp only [PyData.strOk, List.all_toArray', List.all_eq_true, decide_eq_true_eq]
       exact hc
     | tup vs => exact mapI (P := fun t => Rd h x (pd t) _) e fun ts e => r.tupI fun a vals h1 _ _ h4 => (ih.2 h4 e).tuple h1
     | il vs => exact mapI (P := fun t => Rd h x (pd t) _) e fun ts e => r.ilI fun a vals h1 _ _ h4 => (ih.2 h4 e).list h1
     | ref i => exact bindI e fun vs hm e => mapI (P := fun t => Rd h x (pd t) _) e fun ts e => r.refI fun a h1 => let ⟨vals, c1, _, c3⟩ := I.cells i a vs h1 hm; (ih.2 c3 e).list c1
   · cases vs with
     | nil => cases e; exact r.nilI ⟨⟨_, .nil⟩, rfl, Nat.le_add_left ..⟩
     | cons v vs =>
       refine bindI e fun y e1 e => mapI (P := fun t => RdL h xs (pds t) _) e fun ys e2 => r.consI fun x xs h1 h2 => ?_
       have a := ih.1 h1 e1
       have b := ih.2 h2 e2
       obtain ⟨as, a1⟩ := a.reads
       obtain ⟨bs, b1⟩ := b.reads
       exact ⟨⟨_, .cons a1 b1⟩, Bool.and_eq_true_iff.mpr ⟨a.lay, b.lay⟩, Nat.max_le.mpr ⟨Nat.le_succ_of_le a.deep, Nat.le_succ_of_le b.deep⟩⟩
theorem listOf_at (I : Inv base ρ μ h) {v : V} {vs : List V} {x : Value} (r : Rel ρ h v x) (e : listOf μ v = some vs) : ∃ a vals, x = .ref a ∧ SeqAt "list" h a vals ∧ vals.length ≤ LIM ∧ RelL ρ h vs vals := by
 cases v with
 | il ws => cases e; exact r.ilI fun a vals h1 _ h3 h4 => ⟨a, vals, rfl, h1, h3, h4⟩
 | ref i => exact r.refI fun a h1 => let ⟨vals, c⟩ := I.cells i a vs h1 e; ⟨a, vals, rfl, c⟩
 | _ => exact nof e
end
theorem SeqAt.isList {h : Heap} {a : Addr} {vals : List Value} (s : SeqAt "list" h a vals) : h.IsList a vals.toArray := let ⟨n, e⟩ := s; ⟨_, e, rfl, n, rfl⟩
section
variable {prog : Program} {w : World} {A : Around} {E : Value → Shared → Prop} {s : Shared} {base : Heap} {ρ : List Addr} {μ : Mem} {Q : Value → Shared → Prop} {a b c v : V} {x y : Value} {r : Bool}
theorem eqL_cases {R : Prop} (I : Inv base ρ μ s.heap) (ra : Rel ρ s.heap a x) (rb : Rel ρ s.heap b y) (e : eqL μ a b = some r)
   (k1 : ∀ l m va vb, SeqAt "list" s.heap l va → SeqAt "list" s.heap m vb → (va.toArray.size != vb.toArray.size) = true → x = .ref l → y = .ref m → r = false → R)
   (k2 : ∀ d as bs, Reads s.heap x d as → Reads s.heap y d bs → SeqAt.shaped d = true → d.canLay0 = true → r = true → R) : R := by
 refine bindI e fun xs ea e => bindI e fun ys eb e => ?_
 by_cases hl : xs.length ≠ ys.length
 · rw [if_pos hl] at e
   cases e
   obtain ⟨l, va, ex, s1, _, r1⟩ := listOf_at I ra ea
   obtain ⟨m, vb, ey, s2, _, r2⟩ := listOf_at I rb eb
   exact k1 l m va vb s1 s2 (by rw [r1.length, r2.length] at hl; exact bne_iff_ne.mpr hl) ex ey rfl
 · rw [if_neg hl] at e
   by_cases hf : ∃ t, flat 60 μ a = some t ∧ flat 60 μ b = some t
   · rw [if_pos hf] at e
     cases e
     obtain ⟨t, f1, f2⟩ := hf
     have q := (flat_reads I 60).1 ra f1
     obtain ⟨as, q1⟩ := q.reads
     obtain ⟨bs, p1⟩ := ((flat_reads I 60).1 rb f2).reads
     exact k2 _ as bs q1 p1 (by unfold SeqAt.shaped; rw [q.lay, Bool.true_and]; exact decide_eq_true (Nat.le_trans q.deep (by decide))) q.lay rfl
   · rw [if_neg hf] at e; exact nof e
theorem eqL_ok (I : Inv base ρ μ s.heap) (hu : A.units + 64 < cLine) (ra : Rel ρ s.heap a x) (rb : Rel ρ s.heap b y) (e : eqL μ a b = some r) (hs : Q (.bool r) s) : wpAny (model prog w) A (compareOp .Eq x y) Q E s := by
 refine eqL_cases I ra rb e (fun l m va vb s1 s2 hl ex ey er => ?_) fun d as bs q1 p1 hsh hc er => ?_
 · subst er; rw [ex, ey]
   exact SeqAt.eq_list_lengthsAt s1.isList s2.isList hl (by lia) hs
 · subst er
   exact eq_dataH q1 p1 hsh hsh hu (by rw [SeqAt.eqv_refl _ hc]; exact hs)
theorem neL_ok (I : Inv base ρ μ s.heap) (hu : A.units + 64 < cLine) (ra : Rel ρ s.heap a x) (rb : Rel ρ s.heap b y) (e : eqL μ a b = some r) (hs : Q (.bool (!r)) s) : wpAny (model prog w) A (compareOp .NotEq x y) Q E s := by
 refine eqL_cases I ra rb e (fun l m va vb s1 s2 hl ex ey er => ?_) fun d as bs q1 p1 hsh hc er => ?_
 · subst er; rw [ex, ey]
   exact PySem.SeqAt.RcNeAt.lists_lengths s1.isList s2.isList hl (by lia) prog w E Q hs
 · subst er
   exact ne_dataH q1 p1 hsh hsh hu (by rw [SeqAt.eqv_refl _ hc]; exact hs)
theorem occ_empty (X : Str) : (!(Builtin.Str.occurrences X ⟨#[]⟩ 0 X.length 1).isEmpty) = true := by
 rcases StrLaws.occ_head X ⟨#[]⟩ 1 (by lia) with ⟨_, h⟩ | ⟨i, r, h, _⟩
 · exact absurd (show StrLaws.At X ⟨#[]⟩ X.length 0 from ⟨by simp [Str.length], by simp [Builtin.Str.subAt, Str.length]⟩) (h 0)
 · rw [h]; rfl
theorem strIn_ok {s1 s2 : List Nat} {t u : Tok} (e : strIn s1 s2 = some r) (hs : Q (.bool r) s) : wpAny (model prog w) A (compareOp .In (.str ⟨s1.toArray⟩ t) (.str ⟨s2.toArray⟩ u)) Q E s := by
 refine PySem.P.in_str ?_
 cases s1 with
 | nil => cases e; rw [show (([] : List Nat).toArray) = #[] from rfl, occ_empty ⟨s2.toArray⟩]; exact hs
 | cons c q => cases q with
   | nil =>
     cases e
     have := StrLaws.found_one ⟨s2.toArray⟩ c
     rw [show ([c].toArray) = #[c] from rfl, this]
     have e2 : decide (c ∈ (⟨s2.toArray⟩ : Str).cps.toList) = s2.contains c := by simp
     rw [e2]; exact hs
   | cons => exact nof e
noncomputable def hitS (l : List Nat) : Value → Bool
 | .str z _ => z.cps.toList == l
 | _ => false
theorem strsOf_any {ρ : List Addr} {h : Heap} (l : List Nat) (tk : Tok) {vs : List V} {xs : List Value} {ls : List (List Nat)} (q : RelL ρ h vs xs) (e : strsOf vs = some ls) :
   (∀ y ∈ xs, PySem.MeetsSeq.EqGives y (.str ⟨l.toArray⟩ tk) (hitS l y)) ∧ xs.any (hitS l) = ls.contains l := by
 induction vs generalizing xs ls with
 | nil => cases e; exact q.nilI ⟨fun y hy => (nomatch hy), rfl⟩
 | cons v vs ih =>
   refine q.consI fun x xs h1 h2 => onStr_rel (P := fun x => (∀ y ∈ x :: xs, PySem.MeetsSeq.EqGives y (.str ⟨l.toArray⟩ tk) (hitS l y)) ∧ (x :: xs).any (hitS l) = ls.contains l) e h1 fun s' t' _ _ e => ?_
   refine mapI (P := fun ls => _ ∧ _ = ls.contains l) e fun ls' e => ?_
   obtain ⟨q1, q2⟩ := ih h2 e
   refine ⟨fun y hy => ?_, ?_⟩
   · rcases List.mem_cons.mp hy with rfl | hy
     · exact PySem.SeqRoads2.EqGives.str _ _ _ _
     · exact q1 y hy
   · have e1 : (s' == l) = (l == s') := by rw [Bool.eq_iff_iff, beq_iff_eq, beq_iff_eq]; exact eq_comm
     rw [List.any_cons, q2, List.contains_cons, ← e1]; rfl
theorem intB_rel {P : Value → Value → Prop} {f : Int → Int → Bool} {h : Heap} (e : intB f a b = some r) (ra : Rel ρ h a x) (rb : Rel ρ h b y) (k : ∀ i j t u, r = f i j → P (.int i t) (.int j u)) : P x y :=
 onInt_rel (P := fun z => P z y) e ra fun i t e => onInt_rel (P := fun y => P (.int i t) y) e rb fun j u e => k i j t u (Option.some.inj e).symm
theorem eq_ok (I : Inv base ρ μ s.heap) (hu : A.units + 64 < cLine) (ra : Rel ρ s.heap a x) (rb : Rel ρ s.heap b y) (e : eqV μ a b = some r) (hs : Q (.bool r) s) : wpAny (model prog w) A (compareOp .Eq x y) Q E s := by
 cases a with
 | int i => exact ra.intI fun t => onInt_rel (P := fun y => wpAny (model prog w) A (compareOp .Eq _ y) Q E s) e rb fun j u e => by cases e; exact PySem.P.eq_int hs
 | bool i => exact ra.boolI (onBool_rel (P := fun y => wpAny (model prog w) A (compareOp .Eq _ y) Q E s) e rb fun j e => by cases e; exact PyProof.Rows.eq_bool hs)
 | str l => exact ra.strI fun t _ _ => onStr_rel (P := fun y => wpAny (model prog w) A (compareOp .Eq _ y) Q E s) e rb fun m u _ _ e => by cases e; refine PySem.P.eq_str ?_; simpa using hs
 | _ => exact eqL_ok I hu ra rb e hs
theorem ne_ok (I : Inv base ρ μ s.heap) (hu : A.units + 64 < cLine) (ra : Rel ρ s.heap a x) (rb : Rel ρ s.heap b y) (e : eqV μ a b = some r) (hs : Q (.bool (!r)) s) : wpAny (model prog w) A (compareOp .NotEq x y) Q E s := by
 cases a with
 | int i => exact ra.intI fun t => onInt_rel (P := fun y => wpAny (model prog w) A (compareOp .NotEq _ y) Q E s) e rb fun j u e => by cases e; exact PySem.P.ne_int hs
 | bool i => exact ra.boolI (onBool_rel (P := fun y => wpAny (model prog w) A (compareOp .NotEq _ y) Q E s) e rb fun j e => by cases e; exact PyProof.Rows.ne_bool hs)
 | str l => exact ra.strI fun t _ _ => onStr_rel (P := fun y => wpAny (model prog w) A (compareOp .NotEq _ y) Q E s) e rb fun m u _ _ e => by cases e; refine PySem.P.ne_str ?_; simpa [bne] using hs
 | _ => exact neL_ok I hu ra rb e hs
theorem in_ok (ra : Rel ρ s.heap a x) (rb : Rel ρ s.heap b y) (e : cmpV μ .isIn a b = some r) (hs : Q (.bool r) s) : wpAny (model prog w) A (compareOp .In x y) Q E s := by
 have key : ∀ {l : List Nat} {tk : Tok}, (onStr b fun b => strIn l b) = some r → wpAny (model prog w) A (compareOp .In (.str ⟨l.toArray⟩ tk) y) Q E s := fun {l tk} e =>
   onStr_rel (P := fun y => wpAny (model prog w) A (compareOp .In _ y) Q E s) e rb fun m u _ _ e => strIn_ok e hs
 refine onStr_rel (P := fun x => wpAny (model prog w) A (compareOp .In x y) Q E s) e ra fun l tk _ _ e => ?_
 cases b with
 | tup vs =>
   refine rb.tupI fun m vals h1 _ _ h4 => ?_
   obtain ⟨n, h1⟩ := h1
   revert hs
   refine mapI (P := fun r => Q (.bool r) s → _) e fun ls e hs => ?_
   obtain ⟨q1, q2⟩ := strsOf_any l tk h4 e
   refine PySem.SeqRoads2.in_tuple (items := vals.toArray) (hitS l) (fun y hy => q1 y (by simpa using hy)) h1 ?_
   rw [List.any_toArray, q2]; exact hs
 | _ => exact key e
theorem is_ok (ra : Rel ρ s.heap a x) (rb : Rel ρ s.heap b y) (e : cmpV μ .isNone a b = some r) (hs : Q (.bool r) s) : wpAny (model prog w) A (compareOp .Is x y) Q E s := by
 refine onNone_rel (P := fun y => wpAny (model prog w) A (compareOp .Is x y) Q E s) e rb fun e => ?_
 cases a with
 | none => cases e; exact ra.noneI (wpAny_is_self rfl hs)
 | il vs => cases e; exact ra.ilI fun a vals _ _ _ _ => wpAny_is_other rfl (by simp) hs
 | ref i => cases e; exact ra.refI fun a _ => wpAny_is_other rfl (by simp) hs
 | _ => exact nof e
theorem cmp_ok {op : Cop} (I : Inv base ρ μ s.heap) (hu : A.units + 64 < cLine) (ra : Rel ρ s.heap a x) (rb : Rel ρ s.heap b y) (e : cmpV μ op a b = some r) (hs : Q (.bool r) s) :
   wpAny (model prog w) A (compareOp (copOf op) x y) Q E s := by
 cases op with
 | eq => exact eq_ok I hu ra rb e hs
 | ne => revert hs; exact mapI (P := fun r => Q (.bool r) s → _) e fun r' e hs => ne_ok I hu ra rb e hs
 | lt => exact intB_rel (P := fun x y => wpAny (model prog w) A (compareOp .Lt x y) Q E s) e ra rb fun i j t u er => by subst er; exact PySem.P.lt_int hs
 | gt => exact intB_rel (P := fun x y => wpAny (model prog w) A (compareOp .Gt x y) Q E s) e ra rb fun i j t u er => by subst er; exact PySem.P.gt_int hs
 | ge => exact intB_rel (P := fun x y => wpAny (model prog w) A (compareOp .GtE x y) Q E s) e ra rb fun i j t u er => by subst er; exact PySem.P.ge_int hs
 | isIn => exact in_ok ra rb e hs
 | isNone => exact is_ok ra rb e hs
theorem le_ok (ra : Rel ρ s.heap a x) (rb : Rel ρ s.heap b y) (e : leV a b = some r) (hs : Q (.bool r) s) : wpAny (model prog w) A (compareOp .LtE x y) Q E s := by
 refine onStr_rel (P := fun x => wpAny (model prog w) A (compareOp .LtE x y) Q E s) e ra fun l t _ _ e => ?_
 refine sign_inv e fun i e => onStr_rel (P := fun y => wpAny (model prog w) A (compareOp .LtE _ y) Q E s) e rb fun m u _ _ e => sign_inv e fun j e => ?_
 cases e
 refine PySem.P.le_str ?_
 have e0 : (([j] : List Nat) < [i]) ↔ j < i := by simp [List.cons_lt_cons_iff]
 have e1 : (!decide (([j] : List Nat) < [i])) = decide (i ≤ j) := by rw [Bool.eq_iff_iff, Bool.not_eq_true', decide_eq_false_iff_not, decide_eq_true_eq, e0]; exact Nat.not_lt
 rw [show ((⟨[j].toArray⟩ : Str).cps.toList) = [j] from rfl, show ((⟨[i].toArray⟩ : Str).cps.toList) = [i] from rfl, e1]; exact hs
end
end Mine
end
section
open PySem PySem.W PyProof.Rows PySem.Calls
namespace Mine
section
variable {ρ : List Addr} {h : Heap}
theorem Rel.char {c : Nat} (hc : c < 1114112) (t : Tok) : Rel ρ h (.str [c]) (.str ⟨#[c]⟩ t) := .str [c] t (by simp [LIM]) (by simpa using hc)
end
section
variable {prog : Program} {w : World} {A : Around} {E : Value → Shared → Prop} {s : Shared} {base : Heap} {ρ : List Addr} {μ : Mem} {Q : Value → Shared → Prop} {a b c v : V} {x y : Value}
theorem seqIdx_pos {i : Int} {n : Nat} (h0 : 0 ≤ i) (h1 : i.toNat < n) : seqIndex? i n = some i.toNat := by
 unfold seqIndex?
 have : ¬ i < 0 := by lia
 simp only [this, if_false]
 split <;> first | lia | simp_all
theorem list_at {l : Addr} {vs : List V} {vals : List Value} (I : Inv base ρ μ s.heap) (hl : SeqAt "list" s.heap l vals) (hle : vals.length ≤ LIM) (r : RelL ρ s.heap vs vals) {i : Int} {u : Tok} (e : pyAt vs i = some c) (g : Good Rel base ρ μ s c Q) :
   wpAny (model prog w) A (getItem (.ref l) (.int i u)) Q E s := by
 unfold pyAt at e
 by_cases h0 : 0 ≤ i
 · rw [if_pos h0] at e
   obtain ⟨x, hx, rx⟩ := r.get e
   exact wpAny_getItem_list hl.isList h0 (by have := (List.getElem?_eq_some_iff.mp hx).1; unfold LIM at hle; lia) (by simpa using hx) (g.plain' I rx)
 · rw [if_neg h0] at e
   by_cases h1 : i = -1
   · subst h1
     rw [if_pos rfl, List.getLast?_eq_getElem?] at e
     obtain ⟨x, hx, rx⟩ := r.get e
     rw [r.length] at hx
     have hlt := (List.getElem?_eq_some_iff.mp hx).1
     refine wpAny_getItem_list_neg hl.isList (by decide) (by simp; lia) (by decide) (x := x) ?_ (g.plain' I rx)
     have e2 : (-1 + ((vals.toArray.size : Nat) : Int)).toNat = vals.length - 1 := by simp; lia
     rw [e2]; simpa using hx
   · rw [if_neg h1] at e; exact nof e
noncomputable def ItemOk (prog : Program) (w : World) (A : Around) (E : Value → Shared → Prop) (s : Shared) (Q : Value → Shared → Prop) (x y : Value) : Prop :=
 ∃ T id, s.TypeIs x T ∧ typeLookup (.type T) "__getitem__" = pure (some (.builtin id)) ∧ wpAny (model prog w) A (getItem x y) Q E s
theorem ifI {α : Type} {p : Prop} [Decidable p] {x : Option α} {c : α} {R : Prop} (e : (if p then x else Option.none) = some c) (k : p → x = some c → R) : R := by
 by_cases h : p
 · exact k h (by rwa [if_pos h] at e)
 · rw [if_neg h] at e; exact nof e
theorem item_ok (I : Inv base ρ μ s.heap) (ra : Rel ρ s.heap a x) (rb : Rel ρ s.heap b y) (e : idxV μ a b = some c) (g : Good Rel base ρ μ s c Q) : ItemOk prog w A E s Q x y := by
 refine onInt_rel (P := fun y => ItemOk prog w A E s Q x y) e rb fun i u e => ?_
 cases a with
 | str l =>
   refine ra.strI fun t hl hc => ifI e fun h0 e => ?_
   revert g
   refine mapI (P := fun c => Good Rel base ρ μ s c Q → _) e fun d hd g => ?_
   have hlt : i.toNat < l.length := (List.getElem?_eq_some_iff.mp hd).1
   refine ⟨"str", _, typeIs_str _ _ _, F.slot_str_getitem.lookup, PySem.P.getItem_str (c := d) ?_ ?_ (g.plain I (Rel.char (hc d (List.mem_of_getElem? hd)) _) _)⟩
   · unfold LIM at hl; rw [Bool.or_eq_false_iff]; exact ⟨decide_eq_false (by lia), decide_eq_false (by lia)⟩
   · rw [str_len, seqIdx_pos h0 hlt]; simpa using hd
 | tup vs =>
   refine ra.tupI fun m vals h1 _ h3 h4 => ifI e fun h0 e => ?_
   obtain ⟨x, hx, rx⟩ := h4.get e
   have hlt : i.toNat < vals.length := (List.getElem?_eq_some_iff.mp hx).1
   obtain ⟨n, h1⟩ := h1
   have ht : IsTup s.heap m vals.toArray := ⟨_, h1, rfl, n, rfl⟩
   exact ⟨"tuple", _, ht.typeIs, slot_tuple_getitem.lookup, PyProof.Rows.getItem_tuple ht (by lia) (by unfold LIM at h3; lia) (by simpa using seqIdx_pos h0 hlt) (by simpa using hx) (g.plain' I rx)⟩
 | il vs => exact ra.ilI fun m vals h1 _ h3 h4 => ⟨"list", _, h1.isList.typeIs, slot_list_getitem.lookup, list_at I h1 h3 h4 e g⟩
 | ref id => exact bindI e fun vs hm e => ra.refI fun m h1 => let ⟨vals, c1, c2, c3⟩ := I.cells id m vs h1 hm; ⟨"list", _, c1.isList.typeIs, slot_list_getitem.lookup, list_at I c1 c2 c3 e g⟩
 | _ => exact nof e
end
end Mine
end
section
open PySem PySem.W PyProof.Rows PySem.Calls
namespace Mine
section
variable {ρ : List Addr} {h : Heap}
@[elab_as_elim] theorem Rel.bound {d k : Nat} {v : V} {x : Value} {P : Value → Prop} (r : Rel ρ h v x) (e : boundV d v = some k) (kk : ∀ p : Option (Int × Tok), ((p = Option.none ∧ k = d) ∨ ∃ t, p = some ((k : Int), t)) → P (partValue p)) : P x := by
 cases v with
 | none => exact r.noneI (kk Option.none (.inl ⟨rfl, (Option.some.inj e).symm⟩))
 | int i => exact r.intI fun t => when_inv (P := fun k => (∀ p : Option (Int × Tok), ((p = Option.none ∧ k = d) ∨ ∃ t, p = some ((k : Int), t)) → P (partValue p)) → P (.int i t)) e (fun h0 kk => kk (some (i, t)) (.inr ⟨t, by rw [Int.toNat_of_nonneg h0]⟩)) kk
 | _ => exact nof e
theorem clipN (k n : Nat) : max (0 : Int) (min (k : Int) n) = ((min k n : Nat) : Int) := by
 rcases Nat.le_total k n with q | q
 · rw [Nat.min_eq_left q, Int.min_eq_left (Int.ofNat_le.mpr q)]; exact Int.max_eq_right (Int.natCast_nonneg _)
 · rw [Nat.min_eq_right q, Int.min_eq_right (Int.ofNat_le.mpr q)]; exact Int.max_eq_right (Int.natCast_nonneg _)
theorem picked_eq (l : List Nat) (p q : Option (Int × Tok)) {lo hi : Nat} (hp : (p = none ∧ lo = 0) ∨ ∃ t, p = some ((lo : Int), t)) (hq : (q = none ∧ hi = l.length) ∨ ∃ t, q = some ((hi : Int), t)) :
   slicePicked ⟨l.toArray⟩ p q none = (List.range (min hi l.length - min lo l.length)).map (min lo l.length + ·) := by
 rw [← sliceRange_one]
 unfold slicePicked Builtin.Str.strSliceIndices
 rw [str_len, ← clipN, ← clipN]
 have neg : ∀ k : Nat, ¬ ((k : Int) < 0) := fun k => Int.not_lt.mpr (Int.natCast_nonneg k)
 have e1 : ∀ k : Nat, (if (k : Int) < 0 then (k : Int) + l.length else k) = k := fun k => if_neg (neg k)
 rcases hp with ⟨rfl, rfl⟩ | ⟨t, rfl⟩ <;> rcases hq with ⟨rfl, rfl⟩ | ⟨u, rfl⟩
 · rw [clipN, clipN, Nat.zero_min, Nat.min_self]; rfl
 · rw [clipN, clipN, Nat.zero_min, ← clipN hi]; show sliceRange 0 (max 0 (min (if (hi : Int) < 0 then _ else _) _)) 1 = _; rw [e1]; rfl
 · rw [clipN l.length, Nat.min_self]; show sliceRange (max 0 (min (if (lo : Int) < 0 then _ else _) _)) _ 1 = _; rw [e1]; rfl
 · show sliceRange (max 0 (min (if (lo : Int) < 0 then _ else _) _)) (max 0 (min (if (hi : Int) < 0 then _ else _) _)) 1 = _; rw [e1, e1]
theorem pick_list (l : List Nat) (lo hi : Nat) : ((List.range (min hi l.length - min lo l.length)).map (min lo l.length + ·)).filterMap (l.toArray[·]?) = (l.take hi).drop lo := by
 rw [pick_run, List.drop_take]
 rcases Nat.le_total lo l.length with q | q
 · rw [Nat.min_eq_left q]
   rcases Nat.le_total hi l.length with p | p
   · rw [Nat.min_eq_left p]
   · rw [Nat.min_eq_right p, List.take_of_length_le (Nat.le_of_eq List.length_drop), List.take_of_length_le (by rw [List.length_drop]; exact Nat.sub_le_sub_right p _)]
 · rw [Nat.min_eq_right q, List.drop_of_length_le (Nat.le_refl _), List.drop_of_length_le q, List.take_nil, List.take_nil]
end
section
variable {prog : Program} {w : World} {A : Around} {E : Value → Shared → Prop} {s : Shared} {base : Heap} {ρ : List Addr} {μ : Mem} {Q : Value → Shared → Prop} {a b c v lo hi : V} {x y vl vu : Value}
theorem part_sub (l : List Nat) (n1 n2 : Nat) : ((l.take n2).drop n1).Sublist l := (List.drop_sublist ..).trans (List.take_sublist ..)
theorem len_all {k n1 n2 : Nat} (h : min n2 k - min n1 k = k) : min n2 k - n1 = k := by
 rcases Nat.le_total k n1 with q | q
 · rw [Nat.min_eq_right q, Nat.sub_eq_zero_of_le (Nat.min_le_right ..)] at h
   rw [← h]; exact Nat.sub_eq_zero_of_le (Nat.le_trans (Nat.min_le_right ..) (Nat.zero_le _))
 · rwa [Nat.min_eq_left q] at h
noncomputable def SlicedOk (prog : Program) (w : World) (A : Around) (E : Value → Shared → Prop) (s : Shared) (Q : Value → Shared → Prop) (x vl vu : Value) : Prop :=
 ∃ T id, Shared.TypeIs { s with heap := s.heap.push { cls := .type "slice", data := .fields #[vl, vu, .none] } } x T ∧ typeLookup (.type T) "__getitem__" = pure (some (.builtin id)) ∧
     wpAny (model prog w) A (getItem x (.ref s.heap.objs.size)) Q E { s with heap := s.heap.push { cls := .type "slice", data := .fields #[vl, vu, .none] } }
theorem slice_str {l : List Nat} {t : Tok} {n1 n2 : Nat} {p q : Option (Int × Tok)} (I : Inv base ρ μ s.heap) (hl : l.length ≤ LIM) (hc : ∀ c ∈ l, c < 1114112)
   (hp : (p = Option.none ∧ n1 = 0) ∨ ∃ t, p = some ((n1 : Int), t)) (hq : (q = Option.none ∧ n2 = l.length) ∨ ∃ t, q = some ((n2 : Int), t)) (g : Good Rel base ρ μ s (.str ((l.take n2).drop n1)) Q) :
   SlicedOk prog w A E s Q (.str ⟨l.toArray⟩ t) (partValue p) (partValue q) := by
 refine ⟨"str", _, typeIs_str _ _ _, F.slot_str_getitem.lookup, wpAny_getItem_str_slice (l := p) (u := q) (st := none) ⟨_, Heap.get?_push_size _ rfl, rfl, rfl⟩ rfl ?_⟩
 have hlen : ((l.take n2).drop n1).length ≤ LIM := Nat.le_trans (part_sub l n1 n2).length_le hl
 have hr : ∀ t', Rel ρ (s.heap.push { cls := .type "slice", data := .fields #[partValue p, partValue q, .none] }) (.str ((l.take n2).drop n1)) (.str ⟨((l.take n2).drop n1).toArray⟩ t') := fun t' =>
   .str _ t' hlen fun c hm => hc c ((part_sub l n1 n2).subset hm)
 have hsl := picked_eq l p q hp hq
 have hfm : ((slicePicked ⟨l.toArray⟩ p q none).filterMap ((⟨l.toArray⟩ : Str).cps[·]?)) = (l.take n2).drop n1 := by rw [hsl]; exact pick_list l n1 n2
 unfold sliceMade
 split
 case isTrue hw =>
   have e3 : (l.take n2).drop n1 = l := (part_sub l n1 n2).eq_of_length (by
     have hw := eq_of_beq (Bool.and_eq_true_iff.mp hw).2
     rw [hsl, List.length_map, List.length_range, str_len] at hw
     rw [List.length_drop, List.length_take]; exact len_all hw)
   have := Good.grown (n := s.toks) I g (push_keeps _) (hr t)
   rw [e3] at this
   exact this
 case isFalse hw =>
   rw [hfm]
   exact ⟨by show Str.length _ ≤ sizeLine; rw [str_len]; exact LIM_fits hlen, Good.grown I g (push_keeps _) (hr _) _⟩
theorem slice_il {m : Addr} {vs : List V} {vals : List Value} {i : Int} {t : Tok} (I : Inv base ρ μ s.heap) (h1 : SeqAt "list" s.heap m vals) (h3 : vals.length ≤ LIM) (h4 : RelL ρ s.heap vs vals) (h0 : 0 ≤ i)
   (g : Good Rel base ρ μ s (.il (vs.take i.toNat)) Q) : SlicedOk prog w A E s Q (.ref m) .none (.int i t) := by
 have k1 : ∀ b o', s.heap.get? b = some o' → (s.heap.push { cls := .type "slice", data := .fields #[.none, .int i t, .none] }).get? b = some o' := push_keeps _
 have h1' := h1.isList
 refine ⟨"list", _, (h1'.push _).typeIs, slot_list_getitem.lookup, wpAny_getItem_list_slice (h1'.push _) (Heap.IsSliceOf.new ..) .none (.int i t) .none (by simp) ?_ (by simpa using LIM_fits h3)⟩
 have e3 : slicePick vals.toArray none (some i) none = (vals.take i.toNat).toArray := by
   have := slicePick_upto' vals.toArray i.toNat
   rw [Int.toNat_of_nonneg h0] at this; simpa using this
 rw [e3]
 refine g _ ρ _ (.of_keeps fun b o q => Heap.get?_push_of_some _ (k1 b o q)) (I.keeps fun b o q => Heap.get?_push_of_some _ (k1 b o q)) (Rel.newIl (I.keeps k1) ((h4.take _).step (X := []) (.of_keeps k1)) (Nat.le_trans (List.length_take_le' ..) h3)) ⟨rfl, rfl⟩
theorem slice_ok (I : Inv base ρ μ s.heap) (ra : Rel ρ s.heap a x) (rl : Rel ρ s.heap lo vl) (ru : Rel ρ s.heap hi vu) (e : sliceV a lo hi = some c) (g : Good Rel base ρ μ s c Q) : SlicedOk prog w A E s Q x vl vu := by
 cases a with
 | str l =>
   revert g
   exact bindI e fun n1 e1 e => mapI (P := fun c => Good Rel base ρ μ s c Q → _) e fun n2 e2 g => ra.strI fun t hl hc => rl.bound e1 fun p hp => ru.bound e2 fun q hq => slice_str I hl hc hp hq g
 | il vs =>
   revert g
   exact ra.ilI fun m vals h1 _ h3 h4 => onNone_rel (P := fun vl => Good Rel base ρ μ s c Q → SlicedOk prog w A E s Q (.ref m) vl vu) e rl fun e => onInt_rel (P := fun vu => Good Rel base ρ μ s c Q → SlicedOk prog w A E s Q (.ref m) .none vu) e ru fun i t e =>
     when_inv (P := fun c => Good Rel base ρ μ s c Q → SlicedOk prog w A E s Q (.ref m) .none (.int i t)) e fun h0 g => slice_il I h1 h3 h4 h0 g
 | _ => exact nof e
end
end Mine
end
section
open PySem PySem.W PyProof.Rows PySem.Calls
namespace Mine
theorem findC_none (c : Nat) : ∀ (l : List Nat) (k : Nat), (∀ i : Nat, l[i]? ≠ some c) → findC c l k = -1
 | [], _, _ => rfl
 | x :: r, k, h => by
   have h0 : x ≠ c := fun q => h 0 (congrArg some q)
   rw [findC, if_neg h0]
   exact findC_none c r (k + 1) fun i q => h (i + 1) q
theorem findC_some (c : Nat) : ∀ (l : List Nat) (k i : Nat), l[i]? = some c → (∀ j : Nat, j < i → l[j]? ≠ some c) → findC c l k = ((k + i : Nat) : Int)
 | [], _, i, h, _ => nomatch h
 | x :: r, k, 0, h, _ => by rw [findC, if_pos (Option.some.inj h)]; rfl
 | x :: r, k, i + 1, h, hn => by
   have h0 : x ≠ c := fun q => hn 0 (Nat.succ_pos _) (congrArg some q)
   rw [findC, if_neg h0, findC_some c r (k + 1) i h fun j hj q => hn (j + 1) (Nat.succ_lt_succ hj) q, Nat.add_assoc, Nat.add_comm 1]
theorem at_one (l : List Nat) (c i : Nat) : StrLaws.At ⟨l.toArray⟩ ⟨#[c]⟩ (⟨l.toArray⟩ : Str).length i ↔ l[i]? = some c := by
 have := StrLaws.subAt_one ⟨l.toArray⟩ c i
 simpa [StrLaws.At] using this
theorem find_one (l : List Nat) (c lo : Nat) : (match Builtin.Str.occurrences ⟨l.toArray⟩ ⟨#[c]⟩ lo (⟨l.toArray⟩ : Str).length 1 with | k :: _ => (k : Int) | [] => -1) = findC c (l.drop lo) lo := by
 rcases StrLaws.occ_head_from ⟨l.toArray⟩ ⟨#[c]⟩ lo 1 (by decide) with ⟨h, hn⟩ | ⟨i, r, h, hlo, ha, hn⟩
 · rw [h, findC_none]
   intro i q
   rw [List.getElem?_drop] at q
   exact hn (lo + i) (Nat.le_add_right ..) ((at_one l c _).mpr q)
 · obtain ⟨k, rfl⟩ := Nat.exists_eq_add_of_le hlo
   rw [h, findC_some c (l.drop lo) lo k]
   · rw [List.getElem?_drop]; exact (at_one l c _).mp ha
   · intro j hj q
     rw [List.getElem?_drop] at q
     exact hn (lo + j) (Nat.le_add_right ..) (Nat.add_lt_add_left hj _) ((at_one l c _).mpr q)
theorem partAt_none (c : Nat) : ∀ (l : List Nat), (∀ i : Nat, l[i]? ≠ some c) → partAt c l = none
 | [], _ => rfl
 | x :: r, h => by
   have h0 : x ≠ c := fun q => h 0 (congrArg some q)
   rw [partAt, if_neg h0, partAt_none c r fun i q => h (i + 1) q]; rfl
theorem partAt_some (c : Nat) : ∀ (l : List Nat) (i : Nat), l[i]? = some c → (∀ j : Nat, j < i → l[j]? ≠ some c) → partAt c l = some (l.take i, l.drop (i + 1))
 | [], i, h, _ => nomatch h
 | x :: r, 0, h, _ => by rw [partAt, if_pos (Option.some.inj h)]; rfl
 | x :: r, i + 1, h, hn => by
   have h0 : x ≠ c := fun q => hn 0 (Nat.succ_pos _) (congrArg some q)
   rw [partAt, if_neg h0, partAt_some c r i h fun j hj q => hn (j + 1) (Nat.succ_lt_succ hj) q]
   rfl
theorem lower_one : ∀ c < 128, PySem.placed ⟨#[c]⟩ (fun i _ => Unicode.lowerAt #[c] i) = #[lowerC c] := by decide +kernel
theorem digits_text : ∀ n < 100, Str.ofString (toString ((n : Nat) : Int)) = ⟨(digitsOf n).toArray⟩ := by decide +kernel
theorem log_small : ∀ n < 100, n.log2 < 1920 := by decide +kernel
theorem digits_small : ∀ n < 100, (digitsOf n).length ≤ LIM ∧ ∀ c ∈ digitsOf n, c < 1114112 := by decide +kernel
section
variable {prog : Program} {w : World} {A : Around} {E : Value → Shared → Prop} {s : Shared} {base : Heap} {ρ : List Addr} {μ : Mem} {Q : Value → Shared → Prop} {a b c v : V} {x y : Value} {vs : List V} {xs : List Value}
noncomputable def biVal : Bi → Value
 | .len => .builtin "len" | .chr => .builtin "chr" | .ord => .builtin "ord" | .str => .type "str" | .min => .builtin "min"
theorem len_ok {l : Addr} {vals : List Value} (I : Inv base ρ μ s.heap) (hl : SeqAt "list" s.heap l vals) (hle : vals.length ≤ LIM) (r : RelL ρ s.heap vs vals) (g : Good Rel base ρ μ s (.int vs.length) Q) : wpAny (model prog w) A (call (.builtin "len") [.ref l]) Q E s := by
 refine PyProof.Rows.len_list hl.isList (by unfold LIM at hle; simp; lia) ?_
 have e : vals.toArray.size = vs.length := by simp [r.length]
 rw [e]; exact g.plain I (.int ..) _
theorem lenV_ok {v : V} (I : Inv base ρ μ s.heap) (rx : Rel ρ s.heap v x) (e : lenV μ v = some c) (g : Good Rel base ρ μ s c Q) : wpAny (model prog w) A (call (.builtin "len") [x]) Q E s := by
 cases v with
 | str l =>
   cases e
   refine rx.strI fun t hl hc => PySem.P.len_str (by rw [str_len]; unfold LIM at hl; lia) ?_
   rw [str_len]; exact g.plain I (.int ..) _
 | il ws => cases e; exact rx.ilI fun m vals h1 _ h3 h4 => len_ok I h1 h3 h4 g
 | ref id =>
   revert g
   exact mapI (P := fun c => Good Rel base ρ μ s c Q → _) e fun ws hm g => rx.refI fun m h1 => let ⟨vals, c1, c2, c3⟩ := I.cells id m ws h1 hm; len_ok I c1 c2 c3 g
 | _ => exact nof e
theorem bi_ok {f : Bi} (hA : A.handled = none) (I : Inv base ρ μ s.heap) (r : RelL ρ s.heap vs xs) (e : biV μ f vs = some c) (g : Good Rel base ρ μ s c Q) : wpAny (model prog w) A (call (biVal f) xs) Q E s := by
 cases f with
 | len => exact one_rel (P := fun xs => wpAny (model prog w) A (call (.builtin "len") xs) Q E s) e r fun v x rx e => lenV_ok I rx e g
 | chr =>
   refine one_rel (P := fun xs => wpAny (model prog w) A (call (.builtin "chr") xs) Q E s) e r fun v x rx e => onInt_rel (P := fun x => wpAny (model prog w) A (call (.builtin "chr") [x]) Q E s) e rx fun i t e => ?_
   revert g
   refine when_inv e fun h0 g => PySem.P.chr_of_int ?_ (g.plain I (Rel.char (by lia) _) _)
   rw [Bool.or_eq_false_iff]; exact ⟨decide_eq_false (by lia), decide_eq_false (by lia)⟩
 | ord =>
   refine one_rel (P := fun xs => wpAny (model prog w) A (call (.builtin "ord") xs) Q E s) e r fun v x rx e => onStr_rel (P := fun x => wpAny (model prog w) A (call (.builtin "ord") [x]) Q E s) e rx fun l t _ _ e => ?_
   refine sign_inv e fun d e => ?_
   cases e
   exact PySem.P.ord_of_char (g.plain I (.int ..) _)
 | str =>
   refine one_rel (P := fun xs => wpAny (model prog w) A (call (.type "str") xs) Q E s) e r fun v x rx e => onInt_rel (P := fun x => wpAny (model prog w) A (call (.type "str") [x]) Q E s) e rx fun i t e => ?_
   revert g
   refine when_inv e fun h0 g => ?_
   obtain ⟨n, rfl⟩ := Int.eq_ofNat_of_zero_le h0.1
   have hn : n < 100 := Int.ofNat_lt.mp h0.2
   refine PySem.P.str_of_int (log_small n hn) ?_
   have hd := digits_small n hn
   rw [digits_text n hn]
   exact g.plain I (.str _ _ hd.1 hd.2) _
 | min =>
   refine two_rel (P := fun xs => wpAny (model prog w) A (call (.builtin "min") xs) Q E s) e r fun v u x y rx ry e => int2_rel (P := fun x y => wpAny (model prog w) A (call (.builtin "min") [x, y]) Q E s) e rx ry fun i j t u e => ?_
   cases e
   refine min_two_ints hA fun h' tk k => ?_
   split
   case isTrue q => rw [if_pos q] at g; exact g.grown I k (.int ..) _
   case isFalse q => rw [if_neg q] at g; exact g.grown I k (.int ..) _
theorem fromIndex_pos {n : Nat} {i : Int} (h : 0 ≤ i) : fromIndex n i = i.toNat := by
 unfold fromIndex; rw [if_neg (by lia)]; lia
theorem strs_join {ρ : List Addr} {h : Heap} {vs : List V} {xs : List Value} {j : List Nat} (r : RelL ρ h vs xs) (e : joinV vs = some j) :
   ∃ l : List (Str × Tok), xs = strValues l ∧ (l.map fun p => p.1.cps.toList).flatten = j ∧ (∀ c ∈ j, c < 1114112) := by
 induction vs generalizing xs j with
 | nil => cases e; exact r.nilI ⟨[], rfl, rfl, fun _ q => nomatch q⟩
 | cons v vs ih =>
   refine r.consI fun x ys h1 h2 => onStr_rel (P := fun x => ∃ l : List (Str × Tok), x :: ys = strValues l ∧ (l.map fun p => p.1.cps.toList).flatten = j ∧ (∀ c ∈ j, c < 1114112)) e h1 fun s' t' _ hc e => ?_
   refine mapI e fun j' e => ?_
   obtain ⟨l, q1, q2, q4⟩ := ih h2 e
   exact ⟨(⟨s'.toArray⟩, t') :: l, congrArg (_ :: ·) q1, congrArg (s' ++ ·) q2, fun c hm => (List.mem_append.mp hm).elim (hc c) (q4 c)⟩
theorem glue_fold : ∀ (l : List Str) (acc : Array Nat), (l.foldl (fun acc p => acc ++ (Str.empty).cps ++ p.cps) acc).toList = acc.toList ++ (l.map fun p => p.cps.toList).flatten
 | [], acc => by simp
 | p :: l, acc => by rw [List.foldl_cons, glue_fold l]; simp [Str.empty]
theorem join_flat (l : List Str) : (Txt.join Str.empty l) = ⟨((l.map fun p => p.cps.toList).flatten).toArray⟩ := by
 cases l with
 | nil => rfl
 | cons p l =>
   show Str.mk _ = _
   congr 1
   apply Array.toList_inj.mp
   have := glue_fold l p.cps
   simpa using this
theorem total_fold : ∀ (l : List Str) (n : Nat), l.foldl (fun a p => a + p.length + (Str.empty).length) n = n + ((l.map fun p => p.cps.toList).flatten).length
 | [], n => by simp
 | p :: l, n => by rw [List.foldl_cons, total_fold l]; simp [Str.empty, Str.length]; lia
noncomputable def meVal : Me → Value
 | .find => .builtin "str.find" | .lower => .builtin "str.lower" | .strip => .builtin "str.strip" | .partition => .builtin "str.partition" | .join => .builtin "str.join" | .pop => .builtin "list.pop"
theorem find_ok {l d : List Nat} {t u : Tok} {ys : List Value} {vs : List V} (I : Inv base ρ μ s.heap) (r : RelL ρ s.heap vs ys) (e : findV l (.str d) vs = some c) (g : Good Rel base ρ μ s c Q) :
   wpAny (model prog w) A (call (.builtin "str.find") (.str ⟨l.toArray⟩ t :: .str ⟨d.toArray⟩ u :: ys)) Q E s := by
 have e : (sign d fun c => match vs with | [] => some (V.int (findC c l 0)) | v :: q => one (v :: q) fun v => onInt v fun i => when (0 ≤ i) (.int (findC c (l.drop i.toNat) i.toNat))) = some c := e
 refine sign_inv e fun d e => ?_
 cases vs with
 | nil =>
   cases e
   refine r.nilI ?_
   refine call_gives F.slot_str_find (typeIs_str _ _ _) F.entry_str_find (F.args_str_find_2 _ _) (gives_str_find ⟨l.toArray⟩ ⟨[d].toArray⟩ t u) ?_
   have := find_one l d 0
   rw [List.drop_zero] at this
   exact (congrArg (fun z => (Made.int z).post Q s) this).mpr (g.plain I (.int ..) _)
 | cons v q =>
   refine one_rel (P := fun ys => wpAny (model prog w) A (call (.builtin "str.find") (.str ⟨l.toArray⟩ t :: .str ⟨[d].toArray⟩ u :: ys)) Q E s) e r fun v x rx e => onInt_rel (P := fun x => wpAny (model prog w) A (call (.builtin "str.find") (.str ⟨l.toArray⟩ t :: .str ⟨[d].toArray⟩ u :: [x])) Q E s) e rx fun i k e => ?_
   revert g
   refine when_inv e fun h0 g => ?_
   refine call_gives F.slot_str_find (typeIs_str _ _ _) F.entry_str_find (F.args_str_find_3 _ _ _) (gives_str_find_from ⟨l.toArray⟩ ⟨[d].toArray⟩ i t u k) ?_
   rw [fromIndex_pos h0]
   exact (congrArg (fun z => (Made.int z).post Q s) (find_one l d i.toNat)).mpr (g.plain I (.int ..) _)
theorem lower_ok {d : Nat} {t : Tok} (I : Inv base ρ μ s.heap) (h0 : d < 128) (g : Good Rel base ρ μ s (.str [lowerC d]) Q) : wpAny (model prog w) A (call (.builtin "str.lower") [.str ⟨#[d]⟩ t]) Q E s := by
 have e1 := lower_one d h0
 refine call_gives F.slot_str_lower (typeIs_str _ _ _) F.entry_str_lower (F.args_str_lower_1 _) (gives_str_lower ⟨#[d]⟩ t (by rw [e1]; rfl)) ?_
 refine ⟨by show Str.length ⟨_⟩ ≤ _; rw [e1]; show 1 ≤ sizeLine; decide, ?_⟩
 have e2 : (⟨PySem.placed ⟨#[d]⟩ (fun i _ => Unicode.lowerAt (⟨#[d]⟩ : Str).cps i)⟩ : Str) = ⟨#[lowerC d]⟩ := congrArg Str.mk e1
 rw [e2]
 exact g.plain I (Rel.char (by unfold lowerC; split <;> lia) _) _
theorem strip_ok {l cs : List Nat} {t u : Tok} (I : Inv base ρ μ s.heap) (hl : l.length ≤ LIM) (hc : ∀ c ∈ l, c < 1114112) (g : Good Rel base ρ μ s (.str (stripIn cs l)) Q) :
   wpAny (model prog w) A (call (.builtin "str.strip") [.str ⟨l.toArray⟩ t, .str ⟨cs.toArray⟩ u]) Q E s := by
 refine call_gives F.slot_str_strip (typeIs_str _ _ _) F.entry_str_strip (F.args_str_strip_2 _ _) (gives_str_strip_chars ⟨l.toArray⟩ ⟨cs.toArray⟩ t u) ?_
 have sub : (PySem.stripped (⟨cs.toArray⟩ : Str).cps.contains true true ⟨l.toArray⟩).cps.toList.Sublist l := by
   unfold PySem.stripped
   rw [StrLaws.strSub_toList]
   first
     | exact (List.drop_sublist ..).trans (List.take_sublist ..)
     | exact (List.take_sublist ..).trans (List.drop_sublist ..)
 unfold stripIn Txt.stripChars Txt.stripBy at g
 split
 case isTrue q => rw [if_pos q] at g; exact g.plain I (.str _ _ hl hc) _
 case isFalse q =>
   rw [if_neg q] at g
   exact ⟨by rw [Str.length, ← Array.length_toList]; exact LIM_fits (Nat.le_trans sub.length_le hl), g.plain I (.str _ _ (Nat.le_trans sub.length_le hl) fun c hm => hc c (sub.subset hm)) _⟩
theorem part_ok3 {l : List Nat} {d : Nat} {t u : Tok} (I : Inv base ρ μ s.heap) (hl : l.length ≤ LIM) (hc : ∀ c ∈ l, c < 1114112) (hd : Rel ρ s.heap (.str [d]) (.str ⟨#[d]⟩ u)) (g : Good Rel base ρ μ s (parted d l) Q) :
   wpAny (model prog w) A (call (.builtin "str.partition") [.str ⟨l.toArray⟩ t, .str ⟨#[d]⟩ u]) Q E s := by
 refine call_meets F.slot_str_partition (typeIs_str _ _ _) F.entry_str_partition (F.args_str_partition_2 _ _) (meets_str_partition ⟨l.toArray⟩ ⟨#[d]⟩ t u rfl (by rw [str_len]; exact LIM_fits hl)) ?_
 have emp : ∀ t', Rel ρ s.heap (.str []) (.str Str.empty t') := fun t' => .str [] t' (Nat.zero_le _) fun _ q => nomatch q
 have l3 : ∀ a b c : Value, [a, b, c].length ≤ LIM := fun _ _ _ => (by decide : 3 ≤ LIM)
 unfold parted at g
 rcases StrLaws.occ_head ⟨l.toArray⟩ ⟨#[d]⟩ 1 (by decide) with ⟨h, hn⟩ | ⟨i, r', h, ha, hn⟩
 · rw [partAt_none d l fun i q => hn i ((at_one l d i).mpr q)] at g
   rw [h]
   exact g.grown I (push_keeps _) (Rel.newTup I (.cons (.str _ t hl hc) (.cons (emp _) (.cons (emp _) .nil))) (l3 _ _ _)) _
 · rw [partAt_some d l i ((at_one l d i).mp ha) fun j hj q => hn j hj ((at_one l d j).mpr q)] at g
   rw [h]
   have e1 : Builtin.Str.strSub ⟨l.toArray⟩ 0 i = ⟨(l.take i).toArray⟩ := by
     show Str.mk _ = _; congr 1; apply Array.toList_inj.mp; simp
   have e2 : Builtin.Str.strSub ⟨l.toArray⟩ (i + (⟨#[d]⟩ : Str).length) (⟨l.toArray⟩ : Str).length = ⟨(l.drop (i + 1)).toArray⟩ := by
     show Str.mk _ = _; congr 1; apply Array.toList_inj.mp
     simp only [str_len, List.length_singleton, Array.toList_extract, List.extract_eq_take_drop]
     exact List.take_of_length_le (by simp)
   simp only [e1, e2]
   have s1 := List.take_sublist i l
   have s2 := List.drop_sublist (i + 1) l
   exact g.grown I (push_keeps _) (Rel.newTup I (.cons (.str _ _ (Nat.le_trans s1.length_le hl) fun c hm => hc c (s1.subset hm)) (.cons hd (.cons (.str _ _ (Nat.le_trans s2.length_le hl) fun c hm => hc c (s2.subset hm)) .nil))) (l3 _ _ _)) _
theorem join_ok {v : V} {y : Value} {j : List Nat} {t : Tok} (I : Inv base ρ μ s.heap) (ry : Rel ρ s.heap v y) (hj : (listOf μ v).bind joinV = some j) (h0 : j.length ≤ LIM) (g : Good Rel base ρ μ s (.str j) Q) :
   wpAny (model prog w) A (call (.builtin "str.join") [.str Str.empty t, y]) Q E s := by
 refine bindI hj fun ws hw hj => ?_
 obtain ⟨m, vals, rfl, h1, h3, h4⟩ := listOf_at I ry hw
 obtain ⟨l, rfl, q2, q4⟩ := strs_join h4 hj
 have e1 : Txt.join Str.empty (l.map (·.1)) = ⟨j.toArray⟩ := by rw [join_flat, List.map_map, ← q2]; rfl
 refine PySem.SC.join (x := Str.empty) (t := t) h1.isList rfl ?_ fun t' k => ?_
 · have e2 := total_fold (l.map (·.1)) 0
   unfold JoinOk
   rw [Bool.not_eq_true', List.foldl_toArray, e2, List.map_map]
   have : (l.map ((fun p => p.cps.toList) ∘ fun x => x.1)).flatten = j := q2
   rw [this]
   unfold Builtin.Str.tooLong
   refine decide_eq_false ?_
   have := LIM_fits h0
   lia
 · rw [e1]; exact g.plain I (.str _ _ h0 q4) _
theorem me_ok {f : Me} (I : Inv base ρ μ s.heap) (ra : Rel ρ s.heap a x) (r : RelL ρ s.heap vs xs) (e : meV μ f a vs = some c) (g : Good Rel base ρ μ s c Q) : wpAny (model prog w) A (call (meVal f) (x :: xs)) Q E s := by
 cases f with
 | find =>
   refine onStr_rel (P := fun x => wpAny (model prog w) A (call (.builtin "str.find") (x :: xs)) Q E s) e ra fun l t _ _ e => ?_
   cases vs with
   | nil => exact nof e
   | cons v vs => exact r.consI fun y ys ry rr => onStr_rel (P := fun y => wpAny (model prog w) A (call (.builtin "str.find") (_ :: y :: ys)) Q E s) (f := fun d => findV l (.str d) vs) (u := v) (by cases v <;> exact e) ry fun d u _ _ e => find_ok I rr e g
 | lower =>
   refine onStr_rel (P := fun x => wpAny (model prog w) A (call (.builtin "str.lower") (x :: xs)) Q E s) e ra fun l t _ _ e => sign_inv e fun d e => ?_
   cases vs with
   | nil => revert g; exact r.nilI (when_inv e fun h0 g => lower_ok I h0 g)
   | cons => exact nof e
 | strip =>
   refine onStr_rel (P := fun x => wpAny (model prog w) A (call (.builtin "str.strip") (x :: xs)) Q E s) e ra fun l t hl hc e => one_rel (P := fun xs => wpAny (model prog w) A (call (.builtin "str.strip") (_ :: xs)) Q E s) e r fun v y ry e =>
     onStr_rel (P := fun y => wpAny (model prog w) A (call (.builtin "str.strip") [_, y]) Q E s) e ry fun cs u _ _ e => ?_
   cases e
   exact strip_ok I hl hc g
 | partition =>
   refine onStr_rel (P := fun x => wpAny (model prog w) A (call (.builtin "str.partition") (x :: xs)) Q E s) e ra fun l t hl hc e => one_rel (P := fun xs => wpAny (model prog w) A (call (.builtin "str.partition") (_ :: xs)) Q E s) e r fun v y ry e =>
     onStr_rel (P := fun y => wpAny (model prog w) A (call (.builtin "str.partition") [_, y]) Q E s) e ry fun cs u h1 h2 e => ?_
   revert h1 h2
   refine sign_inv e fun d e h1 h2 => ?_
   cases e
   exact part_ok3 I hl hc (.str [d] u h1 h2) g
 | join =>
   refine onStr_rel (P := fun x => wpAny (model prog w) A (call (.builtin "str.join") (x :: xs)) Q E s) e ra fun l t _ _ e => ?_
   cases l with
   | nil =>
     refine one_rel (P := fun xs => wpAny (model prog w) A (call (.builtin "str.join") (_ :: xs)) Q E s) e r fun v y ry e => bindI e fun j hj e => ?_
     revert g
     exact when_inv e fun h0 g => join_ok I ry hj h0 g
   | cons => exact nof e
 | pop => exact nof e
end
end Mine
end
section
open PySem PySem.W PyProof.Rows PySem.Calls
namespace Mine
set_option maxRecDepth 100000
theorem fitsIx {k : Int} (h0 : -(2 ^ 63) ≤ k) (h1 : k < 2 ^ 63) : Builtin.List.listFitsIndex k = true := by
 unfold Builtin.List.listFitsIndex
 simp only [Bool.and_eq_true, decide_eq_true_eq]
 lia
theorem SeqAt.upd {h : Heap} {l : Addr} {vals : List Value} {f : Array Value → Array Value} {vals' : List Value} (hl : SeqAt "list" h l vals) (e : f vals.toArray = vals'.toArray) : SeqAt "list" (h.update l (Obj.mapSeq f)) l vals' := by
 obtain ⟨n, ho⟩ := hl
 refine ⟨if (f vals.toArray).size == vals.toArray.size then n else n + 1, (Heap.get?_update_self _ ho rfl).trans ?_⟩
 simp only [Obj.mapSeq, e]
section
variable {prog : Program} {w : World} {A : Around} {E : Value → Shared → Prop} {s : Shared} {base : Heap} {ρ : List Addr} {μ : Mem} {a b c v : V} {x y : Value} {vs : List V} {xs : List Value}
theorem setAt {l : Addr} {vals : List Value} {k : Int} {j : Nat} {t : Tok} {v : Value} {Q : Unit → Shared → Prop} (hk : k = (j : Int)) (hl : SeqAt "list" s.heap l vals) (hj : j < vals.length) (hle : vals.length ≤ LIM)
   (hQ : Q () { s with heap := s.heap.update l (Obj.mapSeq (·.setIfInBounds j v)) }) : wpAny (model prog w) A (setItem (.ref l) (.int k t) v) Q E s := by
 have hL := hl.isList
 obtain ⟨n, ho⟩ := hl
 unfold LIM at hle
 unfold setItem
 refine wpAny_holding (wpAny_bind (wpAny_sequenceKey hL.typeIs (by decide) ?_))
 refine wpAny_bind (wpAny_callSpecial?_slot (name := Str.ofString "__setitem__") hL.typeIs slot_list_setitem
   (wpAny_call_entry slot_list_setitem hL.typeIs entry_list_setitem ?_ (args_list_setitem _ _ _)))
 show wpAny _ _ (Builtin.List.listSubscript? (.int k t) >>= _) _ _ s
 refine wpAny_bind (wpAny_listSubscript_int (fitsIx (by lia) (by lia)) ?_)
 subst hk
 show wpAny _ _ ((seqItemAt l j >>= fun r => pure (r.map (j, ·))) >>= _) _ _ s
 refine wpAny_bind (wpAny_bind (wpAny_seqItemAt ho rfl (wpAny_pure ?_)))
 have hx : vals.toArray[j]? = some vals[j] := by simp [hj]
 rw [hx]
 show wpAny _ _ (setSeqItemAt l j v >>= _) _ _ s
 refine wpAny_bind (wpAny_setSeqItemAt ho rfl ?_)
 first
   | exact wpAny_bind (wpAny_pure (wpAny_pure ⟨.none, rfl, wpAny_pure hQ⟩))
   | exact wpAny_pure ⟨.none, rfl, wpAny_pure hQ⟩
theorem setLast {l : Addr} {vals : List Value} {t : Tok} {v : Value} {Q : Unit → Shared → Prop} (hl : SeqAt "list" s.heap l vals) (hj : 0 < vals.length) (hle : vals.length ≤ LIM)
   (hQ : Q () { s with heap := s.heap.update l (Obj.mapSeq (·.setIfInBounds (vals.length - 1) v)) }) : wpAny (model prog w) A (setItem (.ref l) (.int (-1) t) v) Q E s := by
 have hL := hl.isList
 obtain ⟨n, ho⟩ := hl
 unfold LIM at hle
 unfold setItem
 refine wpAny_holding (wpAny_bind (wpAny_sequenceKey hL.typeIs (by decide) ?_))
 refine wpAny_bind (wpAny_callSpecial?_slot (name := Str.ofString "__setitem__") hL.typeIs slot_list_setitem
   (wpAny_call_entry slot_list_setitem hL.typeIs entry_list_setitem ?_ (args_list_setitem _ _ _)))
 show wpAny _ _ (Builtin.List.listSubscript? (.int (-1) t) >>= _) _ _ s
 refine wpAny_bind (wpAny_listSubscript_int (fitsIx (by lia) (by lia)) ?_)
 show wpAny _ _ ((Builtin.List.listItems (.ref l) >>= fun xs => pure ((seqIndex? (-1) xs.size).bind fun i => xs[i]?.map (i, ·))) >>= _) _ _ s
 refine wpAny_bind (wpAny_bind ?_)
 show wpAny _ _ (seqItems? (.ref l) >>= _) _ _ s
 refine wpAny_bind (wpAny_seqItems ho rfl (wpAny_pure (wpAny_pure ?_)))
 have hi : seqIndex? (-1) (vals.toArray.size) = some (vals.length - 1) := by
   rw [seqIndex_neg (by lia) (by simp; lia)]; simp; lia
 have hx : vals.toArray[vals.length - 1]? = some vals[vals.length - 1] := by simp [hj]
 rw [hi]
 simp only [Option.bind_some, hx, Option.map_some]
 show wpAny _ _ (setSeqItemAt l (vals.length - 1) v >>= _) _ _ s
 refine wpAny_bind (wpAny_setSeqItemAt ho rfl ?_)
 first
   | exact wpAny_bind (wpAny_pure (wpAny_pure ⟨.none, rfl, wpAny_pure hQ⟩))
   | exact wpAny_pure ⟨.none, rfl, wpAny_pure hQ⟩
noncomputable def GoodM (base : Heap) (ρ : List Addr) (μ' : Mem) (s : Shared) (Q : Shared → Prop) : Prop :=
 ∀ s', Step [] ρ s.heap ρ s'.heap → Inv base ρ μ' s'.heap → Same s s' → Q s'
theorem put_ok {μ' : Mem} {z : Value} {Q : Unit → Shared → Prop} (I : Inv base ρ μ s.heap) (ra : Rel ρ s.heap a x) (rb : Rel ρ s.heap b y) (rc : Rel ρ s.heap c z) (e : putV μ a b c = some μ') (g : GoodM base ρ μ' s (Q ())) :
   wpAny (model prog w) A (setItem x y z) Q E s := by
 refine onRef_rel (P := fun x => wpAny (model prog w) A (setItem x y z) Q E s) e ra fun id m h1 e => onInt_rel (P := fun y => wpAny (model prog w) A (setItem _ y z) Q E s) e rb fun i t e => bindI e fun ws hm e => ?_
 revert g
 refine mapI e fun us e g => ?_
 obtain ⟨vals, c1, c2, c3⟩ := I.cells id m ws h1 hm
 have hn := c3.length
 have fin : ∀ j : Nat, us = ws.set j c → Q () { s with heap := s.heap.update m (Obj.mapSeq (·.setIfInBounds j z)) } := fun j q => by
   subst q
   have hp := I.put (h' := s.heap.update m (Obj.mapSeq (·.setIfInBounds j z))) h1 (Heap.SameBut.update ..) (c1.upd (vals' := vals.set j z) (List.setIfInBounds_toArray ..)) (c3.set (i := j) rc) (by rw [List.length_set]; exact c2)
   exact g { s with heap := s.heap.update m (Obj.mapSeq (·.setIfInBounds j z)) } hp.2 hp.1 ⟨rfl, rfl⟩
 unfold pyPut at e
 by_cases h0 : 0 ≤ i ∧ i < ws.length
 · rw [if_pos h0] at e
   obtain ⟨j, rfl⟩ := Int.eq_ofNat_of_zero_le h0.1
   exact setAt rfl c1 (hn ▸ Int.ofNat_lt.mp h0.2) c2 (fin j (Option.some.inj e).symm)
 · rw [if_neg h0] at e
   by_cases h2 : i = -1 ∧ 0 < ws.length
   · rw [if_pos h2] at e
     have eu := (Option.some.inj e).symm
     rw [hn] at h2 eu
     rw [h2.1]
     exact setLast c1 h2.2 c2 (fin _ eu)
   · rw [if_neg h2] at e; exact nof e
theorem pop_ok {Q : Value → Shared → Prop} {E' : Value → Shared → Prop} {C : Value} {outer : List Env} (I : Inv base ρ μ s.heap) (ra : Rel ρ s.heap a x) (g : Post Rel base C outer ρ s (popV μ a) Q E') : wpAny (model prog w) A (call (.builtin "list.pop") [x]) Q E' s := by
 cases a with
 | ref id =>
   refine ra.refI fun m h1 => ?_
   cases hm : μ[id]? with
   | none => unfold popV at g; simp only [hm] at g; exact g.elim
   | some ws =>
   cases hd : ws.getLast? with
   | none => unfold popV at g; simp only [hm, hd] at g; exact g.elim
   | some d =>
   unfold popV at g
   simp only [hm, hd] at g
   obtain ⟨vals, c1, c2, c3⟩ := I.cells id m ws h1 hm
   have hn := c3.length
   rw [List.getLast?_eq_getElem?] at hd
   obtain ⟨z, hz, rz⟩ := c3.get hd
   rw [hn] at hz
   have hlt := (List.getElem?_eq_some_iff.mp hz).1
   have hp := I.put (h' := s.heap.update m (Obj.mapSeq fun xs => xs.eraseIdxIfInBounds (vals.toArray.size - 1))) h1 (Heap.SameBut.update ..) (c1.upd (vals' := vals.dropLast) (by
     simp only [List.size_toArray]
     rw [Array.eraseIdxIfInBounds, dif_pos (by simpa using hlt)]
     rw [List.eraseIdx_toArray, List.dropLast_eq_take]; congr 1
     rw [List.eraseIdx_eq_take_drop_succ, List.drop_of_length_le (by lia), List.append_nil])) c3.dropLast (Nat.le_trans (by rw [List.length_dropLast]; exact Nat.sub_le ..) c2)
   obtain ⟨n, c1⟩ := c1
   refine call_meets F.slot_list_pop ⟨_, c1, rfl⟩ F.entry_list_pop (F.args_list_pop_1 _) (PySem.MeetsSeq.list_pop_last m vals.toArray n z (by simpa using hz) (by simpa using LIM_fits c2)) ⟨c1, ?_⟩
   exact g z ρ { s with heap := _ } hp.2 hp.1 (rz.step hp.2) ⟨rfl, rfl⟩
 | _ => exact g.elim
theorem append_ok {Q : Value → Shared → Prop} {μ' : Mem} (I : Inv base ρ μ s.heap) (ra : Rel ρ s.heap a x) (rb : Rel ρ s.heap b y) (e : appendV μ a b = some μ') (g : GoodM base ρ μ' s (Q .none)) : wpAny (model prog w) A (call (.builtin "list.append") [x, y]) Q E s := by
 refine onRef_rel (P := fun x => wpAny (model prog w) A (call (.builtin "list.append") [x, y]) Q E s) e ra fun id m h1 e => bindI e fun ws hm e => ?_
 revert g
 refine when_inv e fun hlt g => ?_
 obtain ⟨vals, c1, c2, c3⟩ := I.cells id m ws h1 hm
 have hn := c3.length
 have hp := I.put (h' := s.heap.update m (Obj.mapSeq fun xs => xs.push y)) h1 (Heap.SameBut.update ..) (c1.upd (vals' := vals ++ [y]) (List.push_toArray ..)) (c3.append (.cons rb .nil)) (by rw [List.length_append, ← hn]; exact hlt)
 obtain ⟨n, c1⟩ := c1
 refine call_meets F.slot_list_append ⟨_, c1, rfl⟩ F.entry_list_append (F.args_list_append_2 _ _) (list_append m vals.toArray n y (LIM_fits c2)) ⟨c1, ?_⟩
 exact g { s with heap := _ } hp.2 hp.1 ⟨rfl, rfl⟩
end
end Mine
end
section
open PySem PySem.W PyProof.Rows PySem.Calls
namespace Mine
noncomputable def escD : List (Str × KTD.Dat) := escTab.map fun p => (⟨#[p.1]⟩, .flat (.str ⟨#[p.2]⟩))
noncomputable def closeD : List (Str × KTD.Dat) := closeTab.map fun p => (⟨#[p.1]⟩, .flat (.str ⟨#[p.2]⟩))
structure FnAt (prog : Program) (w : World) (base : Heap) (fn : Fn) (a : Addr) (fd : FuncData) (body : List Stmt) : Prop where
 at_ : ∃ o, base.get? a = some o ∧ o.data = .func fd
 isBody : fd.body = .stmts body
 code : base.CodeRec fd.code fd.qualname
 clo : fd.closure = []
 glob : fd.globals = mainGlobals
 blt : fd.builtins = builtinsNs
 co : fd.scope.isCoroutine = false
 gen : fd.scope.isGenerator = false
 kind : fd.scope.kind = .function
 plain : (fd.scope.more.any fun (n, _) => n == ("interactive" : Str)) = false
 bind : ∀ vals : List Value, vals.length = fn.np → bindArgs fd ⟨vals, []⟩ = pure ((fn.ns.take fn.np).zip vals)
 tr : trSs fd.scope fn.ns fn.body body = true
 np : fn.np ≤ fn.names.length
 cell : ∀ x ∈ fd.scope.names, x.2 ≠ .cell
 locs : ∀ n ∈ fn.ns, fd.scope.names.lookup n = some .local
 nodup : fn.ns.Nodup
noncomputable def ExcObj (C e : Addr) (h : Heap) : Prop := ∃ oe vs a0, h.get? e = some oe ∧ oe.cls = .ref C ∧ oe.data = .fields vs ∧ vs[0]? = some a0 ∧ vs[1]? = some .none
noncomputable def raiseTail (xv : Value) : Sem Flow := do
 let e ← holding [] (excFromValue xv "exceptions must derive from BaseException")
 let e ← if ← isType xv then holding [e] (raisedFor xv e) else raisedInstance e
 setFlight e none
 raiseNew e
structure Top (prog : Program) (w : World) (base : Heap) (mg mb : Str → Option Value) (C : Addr) : Prop where
 nsG : base.Ns mainGlobals mg
 nsB : base.Ns builtinsNs mb
 nolim : base.NoLimit
 globs : ∀ (i : Nat) (n : String) (v : V), globTab[i]? = some (n, v) → ∃ x, mg (Str.ofString n) = some x ∧ Rel [] base v x
 esc : ∃ a, mg ("SHORT_ESCAPES" : Str) = some (.ref a) ∧ KTD.TextTab base a escD
 close : ∃ a, mg ("CLOSERS" : Str) = some (.ref a) ∧ KTD.TextTab base a closeD
 bis : ∀ f : Bi, mg (biName f) = none ∧ mb (biName f) = some (biVal f)
 rng : mg ("range" : Str) = none ∧ mb ("range" : Str) = some (.type "range")
 die : mg ("SyntaxDie" : Str) = some (.ref C)
 keeper : ∀ (A : Around) (E : Value → Shared → Prop) (s : Shared) (Q : Keeper → Shared → Prop), base.StaysIn s.heap → Q .machine s → wpAny (model prog w) A (keeperOf (.ref C)) Q E s
 made : ∀ (A : Around) (E : Value → Shared → Prop) (s : Shared) (Q : Value → Shared → Prop) (X : Str) (t u : Tok), A.handled = none → A.depth ≤ 900 → A.units ≤ 9000 → base.StaysIn s.heap →
   (∀ e s', (∀ b o, s.heap.get? b = some o → s'.heap.get? b = some o) → s.heap.get? e = none → ExcObj C e s'.heap → Same s s' → Q (.ref e) s') → wpAny (model prog w) A (call (.ref C) [.str X t, .int 0 u]) Q E s
 tail : ∀ (A : Around) (E : Value → Shared → Prop) (s : Shared) (Q : Flow → Shared → Prop) (e : Addr), A.handled = none → base.StaysIn s.heap → ExcObj C e s.heap → E (.ref e) s → wpAny (model prog w) A (raiseTail (.ref e)) Q E s
 caught : ∀ (A : Around) (E : Value → Shared → Prop) (s : Shared) (Q : Bool → Shared → Prop) (e : Addr) (o : Obj), base.StaysIn s.heap → s.heap.get? e = some o → o.cls = .ref C → Q true s → wpAny (model prog w) A (excMatches (.ref e) (.ref C)) Q E s
 fns : ∀ (f : Nat) (fn : Fn), fnTab[f]? = some fn → ∃ a fd body, mg (Str.ofString fn.name) = some (.ref a) ∧ FnAt prog w base fn a fd body
section
variable {prog : Program} {w : World} {A : Around} {E : Value → Shared → Prop} {s : Shared} {base : Heap} {ρ : List Addr} {μ : Mem} {env : Env} {sc : Scope} {ns : List Str} {l : Loc} {mg mb : Str → Option Value} {C : Addr}
theorem Ns.stays {h h' : Heap} {a : Addr} {m : Str → Option Value} (x : h.Ns a m) (k : h.StaysIn h') : h'.Ns a m := x.keeps fun b o e => k b o e
theorem loc_ok (K : EnvOK base sc ns env) (Fm : Frm ns env s.heap ρ l) {i : Nat} {n : Str} {v : V} (hn : ns[i]? = some n) (hv : (l[i]?).join = some v) :
   ∃ x, Rel ρ s.heap v x ∧ ∀ (Q : Value → Shared → Prop), Q x s → (n == ("__classdict__" : Str)) = false → wpAny (model prog w) A (loadName env n) Q E s := by
 obtain ⟨m, hns, hm⟩ := Fm.has
 have hl : l[i]? = some (some v) := Option.join_eq_some_iff.mp hv
 obtain ⟨x, rx, hx⟩ := hm i n v hn hl
 refine ⟨x, rx, fun Q hq hcd => ?_⟩
 rcases hx with ⟨hk, hx⟩ | ⟨hk | hk, c, hc, hcell⟩
 · exact wpAny_loadName_local K.kind hk hns hx hq
 · exact wpAny_loadName_cell K.kind hk hc hcell hq
 · exact wpAny_loadName_free K.kind hk hc hcell hq hcd
theorem glob_ok (K : EnvOK base sc ns env) (T : Top prog w base mg mb C) (I : Inv base ρ μ s.heap) {n : Str} {x : Value} {Q : Value → Shared → Prop} (hg : glob? sc n = true) (hx : mg n = some x) (hq : Q x s) : wpAny (model prog w) A (loadName env n) Q E s := by
 unfold glob? at hg
 obtain ⟨hg, _⟩ := Bool.and_eq_true_iff.mp hg
 rw [loadName_read K.kind (K.gl n (by simpa using hg))]
 exact loadGlobal_global (K.glob ▸ Ns.stays T.nsG I.stays) hx hq
theorem blt_ok (K : EnvOK base sc ns env) (T : Top prog w base mg mb C) (I : Inv base ρ μ s.heap) {n : Str} {x : Value} {Q : Value → Shared → Prop} (hg : glob? sc n = true) (hm : mg n = none) (hx : mb n = some x) (hq : Q x s) : wpAny (model prog w) A (loadName env n) Q E s := by
 unfold glob? at hg
 obtain ⟨hg, _⟩ := Bool.and_eq_true_iff.mp hg
 rw [loadName_read K.kind (K.gl n (by simpa using hg))]
 exact loadGlobal_builtin (K.glob ▸ Ns.stays T.nsG I.stays) hm (K.blt ▸ Ns.stays T.nsB I.stays) hx hq
theorem notDebug {n : Str} (hg : glob? sc n = true) : (n == ("__debug__" : Str)) = false := by
 unfold glob? at hg
 obtain ⟨_, hg⟩ := Bool.and_eq_true_iff.mp hg
 simpa using hg
theorem Rel.lift {v : V} {x : Value} (I : Inv base ρ μ s.heap) (r : Rel [] base v x) : Rel ρ s.heap v x := by
 have st : Step [] [] base ρ s.heap := by
   refine ⟨.of_keeps fun b o e => I.stays b o e, ρ, by simp, fun a ha => I.fresh a ha⟩
 exact r.step st
theorem Here.of {a : Addr} {D : List (Str × KTD.Dat)} (I : Inv base ρ μ s.heap) (T : KTD.TextTab base a D) : KTD.Here base s.heap a D := ⟨T, fun b o e => I.stays b o e⟩
theorem tab_lookup : ∀ (t : List (Nat × Nat)) (c : Nat), KTD.datumAt (⟨#[c]⟩ : Str) (t.map fun p => ((⟨#[p.1]⟩ : Str), KTD.Dat.flat (.str ⟨#[p.2]⟩))) = (t.lookup c).map fun d => KTD.Dat.flat (.str ⟨#[d]⟩)
 | [], c => rfl
 | (x, d) :: t, c => by
   have e : decide ((⟨#[c]⟩ : Str) = ⟨#[x]⟩) = (c == x) := by rw [Bool.eq_iff_iff]; simp
   simp only [List.map_cons, KTD.datumAt, List.lookup_cons, e]
   cases hcx : c == x with
   | true => rfl
   | false => simpa using tab_lookup t c
theorem tab_keys (t : List (Nat × Nat)) (l : List Nat) : KTD.inKeys (⟨l.toArray⟩ : Str) (t.map fun p => ((⟨#[p.1]⟩ : Str), KTD.Dat.flat (.str ⟨#[p.2]⟩))) = (match l with | c :: r => (match r with | [] => (t.lookup c).isSome | _ :: _ => false) | [] => false) := by
 match l with
 | [c] => rw [← KTD.isSome_datumAt, tab_lookup]; exact Option.isSome_map
 | [] => induction t with
   | nil => rfl
   | cons p t ih => simp only [List.map_cons, KTD.inKeys]; simpa using ih
 | a :: b :: r => induction t with
   | nil => rfl
   | cons p t ih => simp only [List.map_cons, KTD.inKeys]; simpa using ih
end
end Mine
end
section
open PySem PySem.W PyProof.Rows PySem.Calls
namespace Mine
theorem Step.ofBut {ρ : List Addr} {h h' : Heap} {a : Addr} {o o' : Obj} (hs : ∀ b, b ≠ a → ∀ x, h.get? b = some x → h'.get? b = some x) (e : h.get? a = some o) (e' : h'.get? a = some o') (n1 : ∀ its n, o.data ≠ .seq its n) (n2 : ∀ es n, o.data ≠ .dict es n) : Step [a] ρ h ρ h' := by
 refine ⟨⟨fun b x its n q d _ => ?_, fun b x q nb _ => hs b (by simpa using nb) x q, fun b x es n q d => ?_, fun b x q => ?_⟩, .refl ..⟩
 · by_cases hb : b = a
   · subst hb; rw [e] at q; cases q; exact absurd d (n1 _ _)
   · exact hs b hb x q
 · by_cases hb : b = a
   · subst hb; rw [e] at q; cases q; exact absurd d (n2 _ _)
   · exact ⟨x, es, n, hs b hb x q, d⟩
 · by_cases hb : b = a
   · subst hb; exact ⟨o', e'⟩
   · exact ⟨x, hs b hb x q⟩
theorem Inv.ofBut {base : Heap} {ρ : List Addr} {μ : Mem} {h h' : Heap} {a : Addr} {o o' : Obj} (I : Inv base ρ μ h) (hb : base.get? a = none) (hs : ∀ b, b ≠ a → ∀ x, h.get? b = some x → h'.get? b = some x) (e : h.get? a = some o) (e' : h'.get? a = some o') (n1 : ∀ its n, o.data ≠ .seq its n) (n2 : ∀ es n, o.data ≠ .dict es n) : Inv base ρ μ h' :=
 I.quiet (X := [a]) (by simpa using hb) (Step.ofBut (ρ := []) hs e e' n1 n2).ex
theorem Step.butNew {X ρ ρ' : List Addr} {h h₁ h₂ : Heap} {a : Addr} (x : Step X ρ h ρ' h₁) (hn : h.get? a = none) (hs : ∀ b, b ≠ a → ∀ o, h₁.get? b = some o → h₂.get? b = some o) : Step X ρ h ρ' h₂ := by
 have ne : ∀ {b o}, h.get? b = some o → b ≠ a := fun {b o} e q => by rw [q, hn] at e; cases e
 refine ⟨⟨fun b o its n q d nb => hs b (ne q) o (x.ex.seq b o its n q d nb), fun b o q n1 n2 => hs b (ne q) o (x.ex.keep b o q n1 n2), fun b o es n q d => ?_, fun b o q => ?_⟩, x.grows⟩
 · obtain ⟨o', es', n', e1, e2⟩ := x.ex.dicts b o es n q d
   exact ⟨o', es', n', hs b (ne q) o' e1, e2⟩
 · obtain ⟨o', e1⟩ := x.ex.live b o q
   exact ⟨o', hs b (ne q) o' e1⟩
theorem Step.dropNew {X ρ ρ' : List Addr} {h h₁ : Heap} {a : Addr} (x : Step (a :: X) ρ h ρ' h₁) (hn : h.get? a = none) : Step X ρ h ρ' h₁ :=
 ⟨⟨x.ex.seq, fun b o q n1 n2 => x.ex.keep b o q (fun m => by
   rcases List.mem_cons.mp m with rfl | m
   · rw [hn] at q; cases q
   · exact n1 m) n2, x.ex.dicts, x.ex.live⟩, x.grows⟩
inductive ItKind where
 | list (l : Addr)
 | ascii (x : Str) (t : Tok)
 | wide (x : Str) (t : Tok)
 | range (n : Nat)
noncomputable def ItKind.St (I : Addr) (i : Nat) (h : Heap) : ItKind → Prop
 | .list l => h.IsListIter I l i
 | .ascii x t => h.IsStrIter I "str_ascii_iterator" x t i
 | .wide x t => h.IsStrIter I "str_iterator" x t i
 | .range n => IsRangeIter h I ((i : Nat) : Int) ((n : Int) - (i : Nat)) 1
noncomputable def ItKind.Items (ρ : List Addr) (h : Heap) (vs : List V) : ItKind → Prop
 | .list l => ∃ vals, SeqAt "list" h l vals ∧ RelL ρ h vs vals
 | .ascii x _ => ∃ cs : List Nat, x = ⟨cs.toArray⟩ ∧ (∀ c ∈ cs, c < 1114112) ∧ vs = cs.map fun c => V.str [c]
 | .wide x _ => ∃ cs : List Nat, x = ⟨cs.toArray⟩ ∧ (∀ c ∈ cs, c < 1114112) ∧ vs = cs.map fun c => V.str [c]
 | .range n => vs = (List.range n).map fun k => V.int (k : Nat)
theorem ItKind.St.fields {k : ItKind} {I : Addr} {i : Nat} {h : Heap} (x : k.St I i h) : ∃ o fs, h.get? I = some o ∧ o.data = .fields fs := by
 cases k with
 | list l => obtain ⟨o, ho, _, hd⟩ := x; exact ⟨o, _, ho, hd⟩
 | ascii y t => obtain ⟨o, ho, _, hd⟩ := x; exact ⟨o, _, ho, hd⟩
 | wide y t => obtain ⟨o, ho, _, hd⟩ := x; exact ⟨o, _, ho, hd⟩
 | range n => exact ⟨_, _, x, rfl⟩
theorem ItKind.St.at_ {k : ItKind} {I : Addr} {i : Nat} {h h' : Heap} (x : k.St I i h) (e : ∀ o, h.get? I = some o → h'.get? I = some o) : k.St I i h' := by
 cases k with
 | list l => obtain ⟨o, ho, r⟩ := x; exact ⟨o, e o ho, r⟩
 | ascii y t => obtain ⟨o, ho, r⟩ := x; exact ⟨o, e o ho, r⟩
 | wide y t => obtain ⟨o, ho, r⟩ := x; exact ⟨o, e o ho, r⟩
 | range n => exact e _ x
section
variable {prog : Program} {w : World} {A : Around} {E : Value → Shared → Prop} {s : Shared} {base : Heap} {ρ : List Addr} {μ : Mem} {I : Addr} {k : ItKind} {i : Nat} {vs : List V}
theorem notSeq {o : Obj} {fs : Array Value} (d : o.data = .fields fs) : (∀ its n, o.data ≠ .seq its n) ∧ ∀ es n, o.data ≠ .dict es n := by
 rw [d]; exact ⟨fun _ _ q => (by cases q), fun _ _ q => (by cases q)⟩
theorem next_item {v : V} {Q : Option Value → Shared → Prop} (st : k.St I i s.heap) (it : k.Items ρ s.heap vs) (hv : vs[i]? = some v)
   (hQ : ∀ x h' tk, Rel ρ h' v x → k.St I (i + 1) h' → Heap.SameBut I s.heap h' → Q (some x) { s with heap := h', toks := tk }) : wpAny (model prog w) A (pyNext (.ref I)) Q E s := by
 obtain ⟨o, fs, ho, hd⟩ := st.fields
 have go : ∀ {x : Value} {h' : Heap}, Rel ρ s.heap v x → k.St I (i + 1) h' → Heap.SameBut I s.heap h' → Rel ρ h' v x := fun {x h'} r st' hs => by
   obtain ⟨o', _, ho', _⟩ := st'.fields
   exact r.step (Step.ofBut (a := I) (fun b hb x e => (hs.2 b hb).trans e) ho ho' (notSeq hd).1 (notSeq hd).2)
 have sgn : ∀ {cs : List Nat} {c : Nat} (t : Tok), (∀ c ∈ cs, c < 1114112) → cs[i]? = some c → Rel ρ s.heap (.str [c]) (.str ⟨#[c]⟩ t) := fun {cs c} t hc e => Rel.char (hc c (List.mem_of_getElem? e)) t
 cases k with
 | list l =>
   obtain ⟨vals, hl, r⟩ := it
   obtain ⟨x, hx, rx⟩ := r.get hv
   exact wpAny_pyNext_list_item st hl.isList (by simpa using hx) fun h' st' hs => hQ x h' s.toks (go rx st' hs) st' hs
 | ascii y t =>
   obtain ⟨cs, rfl, hc, rfl⟩ := it
   obtain ⟨c, hc', rfl⟩ : ∃ c, cs[i]? = some c ∧ V.str [c] = v := by simpa using hv
   exact wpAny_pyNext_ascii_item st (c := c) (by simpa using hc') fun h' st' hs => hQ _ h' (s.toks + 1) (go (sgn _ hc hc') st' hs) st' hs
 | wide y t =>
   obtain ⟨cs, rfl, hc, rfl⟩ := it
   obtain ⟨c, hc', rfl⟩ : ∃ c, cs[i]? = some c ∧ V.str [c] = v := by simpa using hv
   exact wpAny_pyNext_wide_item st (c := c) (by simpa using hc') fun h' st' hs => hQ _ h' (s.toks + 1) (go (sgn _ hc hc') st' hs) st' hs
 | range n =>
   have it' : vs = (List.range n).map fun k => V.int (k : Nat) := it
   subst it'
   have hi : i < n := by have := (List.getElem?_eq_some_iff.mp hv).1; simpa using this
   have hv' : V.int (i : Nat) = v := by simpa [hi] using hv
   subst hv'
   refine wpAny_pyNext_range_item st (by lia) fun h' st' hs => ?_
   have st'' : ItKind.St I (i + 1) h' (.range n) := by
     show IsRangeIter h' I (((i + 1 : Nat) : Nat) : Int) ((n : Int) - ((i + 1 : Nat) : Nat)) 1
     have e1 : (((i + 1 : Nat) : Nat) : Int) = (i : Int) + 1 := by push_cast; rfl
     have e2 : (n : Int) - ((i : Int) + 1) = (n : Int) - (i : Int) - 1 := by lia
     rw [e1, e2]; exact st'
   exact hQ _ h' _ (go (.int _ _) st'' hs) st'' hs
theorem next_done {Q : Option Value → Shared → Prop} (hh : A.handled = none) (st : k.St I i s.heap) (it : k.Items ρ s.heap vs) (hv : vs[i]? = none)
   (hQ : ∀ h', Heap.ExtBut I s.heap h' → Q none { s with heap := h' }) : wpAny (model prog w) A (pyNext (.ref I)) Q E s := by
 cases k with
 | list l =>
   obtain ⟨vals, hl, r⟩ := it
   refine wpAny_pyNext_list_end hh st hl.isList ?_ hQ
   have := r.length
   rw [List.getElem?_eq_none_iff] at hv
   simp; lia
 | ascii y t =>
   obtain ⟨cs, rfl, hc, rfl⟩ := it
   exact wpAny_pyNext_ascii_end hh st (by simpa using hv) hQ
 | wide y t =>
   obtain ⟨cs, rfl, hc, rfl⟩ := it
   exact wpAny_pyNext_wide_end hh st (by simpa using hv) hQ
 | range n =>
   have it' : vs = (List.range n).map fun k => V.int (k : Nat) := it
   subst it'
   have hi : n ≤ i := by simpa using hv
   exact wpAny_pyNext_range_end hh st (by lia) hQ
noncomputable def IterQ {x : Value} (base : Heap) (s : Shared) (v : V) (vs : List V) (Q : Value → Shared → Prop) : Prop :=
 ∀ (o : Obj) (k : ItKind), k.St s.heap.objs.size 0 (s.heap.push o) → (∀ its n, o.data ≠ .seq its n) → (∀ es n, o.data ≠ .dict es n) →
     (∀ ρ' μ' h', Inv base ρ' μ' h' → Rel ρ' h' v x → stays v vs μ' → k.Items ρ' h' vs) → Q (.ref s.heap.objs.size) { s with heap := s.heap.push o }
theorem iter_start {v : V} {x : Value} {Q : Value → Shared → Prop} (J : Inv base ρ μ s.heap) (r : Rel ρ s.heap v x) (e : itemsOf μ v = some vs) (hQ : IterQ (x := x) base s v vs Q) : wpAny (model prog w) A (pyIter x) Q E s := by
 have li : ∀ {o : Obj} {fs : Array Value}, o.data = .fields fs → (∀ its n, o.data ≠ .seq its n) ∧ ∀ es n, o.data ≠ .dict es n := notSeq
 cases v with
 | str l =>
   cases e
   revert hQ
   refine r.strI fun t hl hc hQ => wpAny_pyIter_strU (hQ _ (if l.all (· < 128) then .ascii ⟨l.toArray⟩ t else .wide ⟨l.toArray⟩ t) ?_ (li rfl).1 (li rfl).2 ?_)
   · have e1 : ((⟨l.toArray⟩ : Str).cps.all (· < 128)) = l.all (· < 128) := by simp
     cases ha : l.all (· < 128)
     · exact ⟨_, Heap.get?_push_size _ rfl, by simp only [strIterType, e1, ha]; rfl, rfl⟩
     · exact ⟨_, Heap.get?_push_size _ rfl, by simp only [strIterType, e1, ha]; rfl, rfl⟩
   · intro ρ' μ' h' _ _ _
     cases l.all (· < 128)
     · exact ⟨l, rfl, hc, rfl⟩
     · exact ⟨l, rfl, hc, rfl⟩
 | il ws =>
   cases e
   revert hQ
   refine r.ilI fun m vals h1 _ _ _ hQ => wpAny_pyIter_list h1.isList (hQ _ (.list m) ⟨_, Heap.get?_push_size _ rfl, rfl, rfl⟩ (li rfl).1 (li rfl).2 fun ρ' μ' h' _ r' _ => ?_)
   obtain ⟨_, vals', q, g1, _, _, g4⟩ := r'
   cases q; exact ⟨vals', g1, g4⟩
 | ref id =>
   revert hQ
   refine r.refI fun m h1 hQ => ?_
   obtain ⟨vals, c1, c2, c3⟩ := J.cells id m vs h1 e
   refine wpAny_pyIter_list c1.isList (hQ _ (.list m) ⟨_, Heap.get?_push_size _ rfl, rfl, rfl⟩ (li rfl).1 (li rfl).2 fun ρ' μ' h' J' r' hs => ?_)
   obtain ⟨_, q, g1⟩ := r'
   cases q
   obtain ⟨vals', d1, _, d3⟩ := J'.cells id m vs g1 hs
   exact ⟨vals', d1, d3⟩
 | _ => exact nof e
end
end Mine
end
section
open PySem PySem.W PyProof.Rows PySem.Calls
namespace Mine
theorem Step.ofDict {ρ : List Addr} {h h' : Heap} {a : Addr} {m m' : Str → Option Value} (hs : Heap.SameBut a h h') (e : h.Ns a m) (e' : h'.Ns a m') : Step [a] ρ h ρ h' := by
 obtain ⟨o, es, ep, ho, hd, _⟩ := e
 obtain ⟨o', es', ep', ho', hd', _⟩ := e'
 refine ⟨⟨fun b x its n q d _ => ?_, fun b x q nb _ => (hs.2 b (by simpa using nb)).trans q, fun b x es1 n q d => ?_, fun b x q => ?_⟩, .refl ..⟩
 · by_cases hb : b = a
   · subst hb; rw [ho] at q; cases q; rw [hd] at d; cases d
   · exact (hs.2 b hb).trans q
 · by_cases hb : b = a
   · subst hb; exact ⟨o', es', ep', ho', hd'⟩
   · exact ⟨x, es1, n, (hs.2 b hb).trans q, d⟩
 · by_cases hb : b = a
   · subst hb; exact ⟨o', ho'⟩
   · exact ⟨x, (hs.2 b hb).trans q⟩
theorem Loc.get_set {l : Loc} {i j : Nat} {v u : V} (h : (l.set i (some v))[j]? = some (some u)) : (j = i ∧ u = v) ∨ (j ≠ i ∧ l[j]? = some (some u)) := by
 by_cases hj : j = i
 · subst hj
   have hlt : j < l.length := by have := (List.getElem?_eq_some_iff.mp h).1; simpa using this
   rw [List.getElem?_set_self hlt] at h
   cases h; exact .inl ⟨rfl, rfl⟩
 · rw [List.getElem?_set_ne (Ne.symm hj)] at h; exact .inr ⟨hj, h⟩
section
variable {prog : Program} {w : World} {A : Around} {E : Value → Shared → Prop} {s : Shared} {base : Heap} {ρ : List Addr} {μ : Mem} {env : Env} {sc : Scope} {ns : List Str} {l : Loc}
theorem names_ne (K : EnvOK base sc ns env) {i j : Nat} {n n' : Str} (h1 : ns[i]? = some n) (h2 : ns[j]? = some n') (hij : j ≠ i) : n' ≠ n := fun q => by
 subst q
 have a1 := List.getElem?_eq_some_iff.mp h1
 have a2 := List.getElem?_eq_some_iff.mp h2
 exact hij ((List.getElem_inj K.nodup).mp (a2.2.trans a1.2.symm))
theorem store_local (K : EnvOK base sc ns env) (Fm : Frm ns env s.heap ρ l) (I : Inv base ρ μ s.heap) {i : Nat} {n : Str} {v : V} {x : Value} {Q : Unit → Shared → Prop} (hn : ns[i]? = some n) (hl : env.kindOf n = some .local) (rx : Rel ρ s.heap v x)
   (hQ : ∀ s', Step [env.locals] ρ s.heap ρ s'.heap → Inv base ρ μ s'.heap → Frm ns env s'.heap ρ (l.set i (some v)) → Same s s' → Q () s') : wpAny (model prog w) A (storeName env n x) Q E s := by
 obtain ⟨hlen, ⟨m, hns, hm⟩, hk, hcl⟩ := id Fm
 have hpl : (env.scope.kind == .class || (env.scope.kind == .module && env.locals != env.globals)) = false := by rw [K.kind]; rfl
 have notLoc : ∀ {c v}, s.heap.IsCell c v → c ≠ env.locals := fun {c v} hc q => by
   subst q
   obtain ⟨o, ho, hd⟩ := hc
   obtain ⟨o', es, ep, ho', hd', _⟩ := hns
   rw [ho] at ho'; cases ho'; rw [hd] at hd'; cases hd'
 refine wpAny_storeName_local hl hns (fun h' hns' hs => ?_) hpl
 have st : Step [env.locals] ρ s.heap ρ h' := .ofDict hs hns hns'
 refine hQ { s with heap := h', toks := s.toks + 1 } st (I.quiet (by simpa using K.newL) (Step.ofDict (ρ := []) hs hns hns').ex) ?_ ⟨rfl, rfl⟩
 refine ⟨by simpa using hlen, ⟨_, hns', fun j n' u h1 h2 => ?_⟩, fun n' hn' => ?_, fun p hp => let ⟨v, q⟩ := hcl p hp; ⟨v, q.sameBut hs (notLoc q)⟩⟩
 · rcases Loc.get_set h2 with ⟨rfl, rfl⟩ | ⟨hji, h2⟩
   · rw [hn] at h1; cases h1
     exact ⟨x, rx.step st, .inl ⟨hl, by simp⟩⟩
   · have hne := names_ne K hn h1 hji
     obtain ⟨y, ry, hy⟩ := hm j n' u h1 h2
     refine ⟨y, ry.step st, ?_⟩
     rcases hy with ⟨q1, q2⟩ | ⟨q1, c, q2, q3⟩
     · exact .inl ⟨q1, by simpa [hne] using q2⟩
     · exact .inr ⟨q1, c, q2, q3.sameBut hs (notLoc q3)⟩
 · rcases hk n' hn' with q | ⟨q, c, v, q2, q3⟩
   · exact .inl q
   · exact .inr ⟨q, c, v, q2, q3.sameBut hs (notLoc q3)⟩
theorem store_ok (K : EnvOK base sc ns env) (Fm : Frm ns env s.heap ρ l) (I : Inv base ρ μ s.heap) {i : Nat} {n : Str} {v : V} {x : Value} {Q : Unit → Shared → Prop} (hn : ns[i]? = some n) (hf : env.kindOf n ≠ some .free) (rx : Rel ρ s.heap v x)
   (hQ : ∀ s', Step (own env) ρ s.heap ρ s'.heap → Inv base ρ μ s'.heap → Frm ns env s'.heap ρ (l.set i (some v)) → Same s s' → Q () s') : wpAny (model prog w) A (storeName env n x) Q E s := by
 obtain ⟨hlen, ⟨m, hns, hm⟩, hk, hcl⟩ := id Fm
 have hpl : (env.scope.kind == .class || (env.scope.kind == .module && env.locals != env.globals)) = false := by rw [K.kind]; rfl
 have notLoc : ∀ {c v}, s.heap.IsCell c v → c ≠ env.locals := fun {c v} hc q => by
   subst q
   obtain ⟨o, ho, hd⟩ := hc
   obtain ⟨o', es, ep, ho', hd', _⟩ := hns
   rw [ho] at ho'; cases ho'; rw [hd] at hd'; cases hd'
 rcases hk n (List.mem_of_getElem? hn) with hl | ⟨hl | hl, c, v0, hc, hcell⟩
 · exact store_local K Fm I hn hl rx fun s' st I' F' sm => hQ s' (st.mono fun a q => by simp at q; subst q; exact .head _) I' F' sm
 · refine wpAny_storeName_cell K.kind hl hc hcell fun h' hcell' hs => ?_
   obtain ⟨o, ho, hd⟩ := id hcell
   obtain ⟨o', ho', hd'⟩ := id hcell'
   have n1 : ∀ its n, o.data ≠ .seq its n := fun _ _ q => by rw [hd] at q; cases q
   have n2 : ∀ es n, o.data ≠ .dict es n := fun _ _ q => by rw [hd] at q; cases q
   have hs' : ∀ b, b ≠ c → ∀ x, s.heap.get? b = some x → h'.get? b = some x := fun b hb x e => (hs.2 b hb).trans e
   have st : Step [c] ρ s.heap ρ h' := Step.ofBut hs' ho ho' n1 n2
   have hcm : (n, c) ∈ env.cells := mem_of_lookup hc
   have hbc : base.get? c = none := K.newC _ hcm
   refine hQ { s with heap := h' } (st.mono fun a q => by simp at q; subst q; exact .tail _ (List.mem_map.mpr ⟨_, hcm, rfl⟩)) (I.ofBut hbc hs' ho ho' n1 n2) ?_ ⟨rfl, rfl⟩
   have hns' : h'.Ns env.locals m := by
     obtain ⟨o, es, ep, e, r⟩ := hns
     exact ⟨o, es, ep, hs' _ (Ne.symm (notLoc hcell)) _ e, r⟩
   refine ⟨by simpa using hlen, ⟨m, hns', fun j n' u h1 h2 => ?_⟩, fun n' hn' => ?_, fun p hp => ?_⟩
   rotate_left 2
   · by_cases hpc : p.2 = c
     · exact ⟨_, hpc ▸ hcell'⟩
     · obtain ⟨v, q⟩ := hcl p hp
       exact ⟨v, q.sameBut hs hpc⟩
   · rcases Loc.get_set h2 with ⟨rfl, rfl⟩ | ⟨hji, h2⟩
     · rw [hn] at h1; cases h1
       exact ⟨x, rx.step st, .inr ⟨.inl hl, c, hc, hcell'⟩⟩
     · have hne := names_ne K hn h1 hji
       obtain ⟨y, ry, hy⟩ := hm j n' u h1 h2
       refine ⟨y, ry.step st, ?_⟩
       rcases hy with ⟨q1, q2⟩ | ⟨q1, d, q2, q3⟩
       · exact .inl ⟨q1, q2⟩
       · exact .inr ⟨q1, d, q2, q3.sameBut hs fun q => hne (K.apart _ _ c (q ▸ q2) hc)⟩
   · by_cases hne : n' = n
     · subst hne; exact .inr ⟨.inl hl, c, _, hc, hcell'⟩
     · rcases hk n' hn' with q | ⟨q, d, v, q2, q3⟩
       · exact .inl q
       · exact .inr ⟨q, d, v, q2, q3.sameBut hs fun q => hne (K.apart _ _ c (q ▸ q2) hc)⟩
 · exact absurd hl hf
end
end Mine
end
section
open PySem PySem.W PyProof.Rows PySem.Calls
namespace Mine
structure Kn where
 prog : Program
 w : World
 base : Heap
 mg : Str → Option Value
 mb : Str → Option Value
 C : Addr
 d : Nat
 Φ : OK
noncomputable abbrev Kn.M (κ : Kn) : Model := model κ.prog κ.w
structure Ct where
 A : Around
 outer : List Env
 env : Env
 sc : Scope
 ns : List Str
structure Sg where
 ρ : List Addr
 μ : Mem
 s : Shared
structure Cx (κ : Kn) (X : Ct) (l : Loc) (σ : Sg) : Prop where
 T : Top κ.prog κ.w κ.base κ.mg κ.mb κ.C
 K : EnvOK κ.base X.sc X.ns X.env
 F : Frm X.ns X.env σ.s.heap σ.ρ l
 a : Aok X.A κ.base σ.s.heap X.outer κ.d
 I : Inv κ.base σ.ρ σ.μ σ.s.heap
structure To (σ σ' : Sg) : Prop where
 st : Step [] σ.ρ σ.s.heap σ'.ρ σ'.s.heap
 sm : Same σ.s σ'.s
theorem To.refl (σ : Sg) : To σ σ := ⟨Step.refl .., Same.refl _⟩
theorem To.trans {a b c : Sg} (x : To a b) (y : To b c) : To a c := ⟨x.st.trans y.st, x.sm.trans y.sm⟩
noncomputable abbrev QV := Value → Shared → Prop
noncomputable abbrev Is (σ : Sg) (v : V) (x : Value) : Prop := Rel σ.ρ σ.s.heap v x
noncomputable def PostE (κ : Kn) (X : Ct) (σ : Sg) (r : O V) (Q E : QV) : Prop := Post Rel κ.base (.ref κ.C) X.outer σ.ρ σ.s r Q E
noncomputable def RB (ρ : List Addr) (h : Heap) (b x : Bool) : Prop := b = x
noncomputable def PostT (κ : Kn) (X : Ct) (σ : Sg) (r : O Bool) (Q : Bool → Shared → Prop) (E : QV) : Prop := Post RB κ.base (.ref κ.C) X.outer σ.ρ σ.s r Q E
noncomputable def PostL (κ : Kn) (X : Ct) (σ : Sg) (r : O (List V)) (Q : List Value → Shared → Prop) (E : QV) : Prop := Post RelL κ.base (.ref κ.C) X.outer σ.ρ σ.s r Q E
noncomputable def SoundΦ (κ : Kn) : Prop :=
 ∀ (f : Nat) (fn : Fn) (a : Addr) (vs : List V) (xs : List Value) (X : Ct) (σ : Sg) (Q E : QV),
   fnTab[f]? = some fn → κ.mg (Str.ofString fn.name) = some (.ref a) → Aok X.A κ.base σ.s.heap X.outer κ.d → Inv κ.base σ.ρ σ.μ σ.s.heap → RelL σ.ρ σ.s.heap vs xs →
   PostE κ X σ (κ.Φ f vs σ.μ) Q E → wpAny κ.M X.A (call (.ref a) xs) Q E σ.s
noncomputable def toB (v : V) (μ : Mem) : O Bool := match v with
 | .bool b => .ok b μ
 | _ => .bad
noncomputable def tb (r : O V) : O Bool := B2 toB r
theorem tb_bind {α : Type} (r : O α) (f : α → Mem → O V) : tb (B2 f r) = B2 (fun v μ => tb (f v μ)) r := by cases r <;> rfl
theorem tb_bind1 {α : Type} (r : O α) (f : α → Mem → O V) : tb (B1 f r) = B1 (fun v μ => tb (f v μ)) r := by cases r <;> rfl
noncomputable def pick {α : Type} (x y : Mem → O α) (b : Bool) (μ : Mem) : O α := match b with | true => x μ | false => y μ
theorem tb_boolK (x y : Mem → O V) (r : O V) : B2 (fun v μ => boolK (x μ) (y μ) v) r = B2 (pick x y) (tb r) := by
 cases r with
 | ok v μ => cases v with
   | bool b => cases b <;> rfl
   | _ => rfl
 | _ => rfl
section
variable (κ : Kn)
noncomputable def SE (e : E) : Prop := ∀ (x : Expr) (X : Ct) (l : Loc) (σ : Sg) (Q E' : QV), trE X.sc X.ns e x = true → Cx κ X l σ → PostE κ X σ (xE κ.Φ e l σ.μ) Q E' → wpAny κ.M X.A (eval x X.env) Q E' σ.s
noncomputable def ST (e : E) : Prop := ∀ (x : Expr) (X : Ct) (l : Loc) (σ : Sg) (Q : Bool → Shared → Prop) (E' : QV), trE X.sc X.ns e x = true → Cx κ X l σ → PostT κ X σ (tb (xE κ.Φ e l σ.μ)) Q E' → wpAny κ.M X.A (isTrue x X.env (eval x X.env)) Q E' σ.s
noncomputable def SEs (es : Es) : Prop := ∀ (xs : List Expr) (pos : Pos) (X : Ct) (l : Loc) (σ : Sg) (Q : List Value → Shared → Prop) (E' : QV),
 trEs X.sc X.ns es xs = true → Cx κ X l σ → PostL κ X σ (xEs κ.Φ es l σ.μ) Q E' → wpAny κ.M X.A (spliced (backTo pos (starEach xs X.env))) Q E' σ.s
noncomputable def SAnd (es : Es) : Prop := ∀ (xs : List Expr) (pos : Pos) (X : Ct) (l : Loc) (σ : Sg) (Q E' : QV), xs ≠ [] →
 trEs X.sc X.ns es xs = true → Cx κ X l σ → PostE κ X σ (xAnd κ.Φ es l σ.μ) Q E' → wpAny κ.M X.A (eval (.BoolOp .And xs pos) X.env) Q E' σ.s
noncomputable def SOr (es : Es) : Prop := ∀ (xs : List Expr) (pos : Pos) (X : Ct) (l : Loc) (σ : Sg) (Q E' : QV), xs ≠ [] →
 trEs X.sc X.ns es xs = true → Cx κ X l σ → PostE κ X σ (xOr κ.Φ es l σ.μ) Q E' → wpAny κ.M X.A (eval (.BoolOp .Or xs pos) X.env) Q E' σ.s
noncomputable def TAnd (es : Es) : Prop := ∀ (xs : List Expr) (pos : Pos) (whole : Sem Value) (X : Ct) (l : Loc) (σ : Sg) (Q : Bool → Shared → Prop) (E' : QV),
 trEs X.sc X.ns es xs = true → Cx κ X l σ → PostT κ X σ (tb (xAnd κ.Φ es l σ.μ)) Q E' → wpAny κ.M X.A (isTrue (.BoolOp .And xs pos) X.env whole) Q E' σ.s
noncomputable def TOr (es : Es) : Prop := ∀ (xs : List Expr) (pos : Pos) (whole : Sem Value) (X : Ct) (l : Loc) (σ : Sg) (Q : Bool → Shared → Prop) (E' : QV),
 trEs X.sc X.ns es xs = true → Cx κ X l σ → PostT κ X σ (tb (xOr κ.Φ es l σ.μ)) Q E' → wpAny κ.M X.A (isTrue (.BoolOp .Or xs pos) X.env whole) Q E' σ.s
end
section
variable {κ : Kn} {X : Ct} {l : Loc} {σ σ₁ : Sg} {Q Q' E' : QV} {QB : Bool → Shared → Prop} {v : V} {x : Value}
theorem Cx.step (c : Cx κ X l σ) (t : To σ σ₁) (I' : Inv κ.base σ₁.ρ σ₁.μ σ₁.s.heap) : Cx κ X l σ₁ :=
 ⟨c.T, c.K, c.F.step (fun a ha => c.I.at ha) t.st, c.a.step t.st, I'⟩
theorem Cx.room (c : Cx κ X l σ) : X.A.units + 64 < cLine := by have := c.a.units; have := cLine_is; lia
theorem PostE.plain {μ : Mem} (h : PostE κ X σ (.ok v μ) Q E') (I : Inv κ.base σ.ρ μ σ.s.heap) (r : Is σ v x) (k : Nat) : Q x { σ.s with toks := k } := Good.plain I h r k
theorem PostE.plain' {μ : Mem} (h : PostE κ X σ (.ok v μ) Q E') (I : Inv κ.base σ.ρ μ σ.s.heap) (r : Is σ v x) : Q x σ.s := Good.plain' I h r
theorem PostT.plain {b : Bool} {μ : Mem} (h : PostT κ X σ (.ok b μ) QB E') (I : Inv κ.base σ.ρ μ σ.s.heap) : QB b σ.s := h b σ.ρ σ.s (Step.refl ..) I rfl (Same.refl _)
structure Aft (κ : Kn) (X : Ct) (l : Loc) (σ σ₁ : Sg) : Prop where
 c : Cx κ X l σ₁
 t : To σ σ₁
theorem PostE.bind {f : V → Mem → O V} {r : O V} (h : PostE κ X σ (B2 f r) Q E') (c : Cx κ X l σ) (k : ∀ v x σ₁, Aft κ X l σ σ₁ → Is σ₁ v x → PostE κ X σ₁ (f v σ₁.μ) Q E' → Q' x σ₁.s) : PostE κ X σ r Q' E' :=
 Post.bind h fun v μ₁ x ρ₁ s₁ st I r sm h => k v x ⟨ρ₁, μ₁, s₁⟩ ⟨c.step ⟨st, sm⟩ I, st, sm⟩ r h
theorem PostE.bind1 {f : V → Mem → O V} {r : O V} (h : PostE κ X σ (B1 f r) Q E') (c : Cx κ X l σ) (k : ∀ v x σ₁, Aft κ X l σ σ₁ → Is σ₁ v x → PostE κ X σ₁ (f v σ₁.μ) Q E' → Q' x σ₁.s) : PostE κ X σ r Q' E' := PostE.bind (f := f) (r := r) h c k
theorem PostE.bind0 {f : V → Mem → O V} {r : O V} (h : PostE κ X σ (B0 f r) Q E') (c : Cx κ X l σ) (k : ∀ v x σ₁, Aft κ X l σ σ₁ → Is σ₁ v x → PostE κ X σ₁ (f v σ₁.μ) Q E' → Q' x σ₁.s) : PostE κ X σ r Q' E' := PostE.bind (f := f) (r := r) h c k
theorem PostT.bind {f : V → Mem → O Bool} {r : O V} (h : PostT κ X σ (B2 f r) QB E') (c : Cx κ X l σ) (k : ∀ v x σ₁, Aft κ X l σ σ₁ → Is σ₁ v x → PostT κ X σ₁ (f v σ₁.μ) QB E' → Q' x σ₁.s) : PostE κ X σ r Q' E' :=
 Post.bind h fun v μ₁ x ρ₁ s₁ st I r sm h => k v x ⟨ρ₁, μ₁, s₁⟩ ⟨c.step ⟨st, sm⟩ I, st, sm⟩ r h
theorem PostT.bind1 {f : V → Mem → O Bool} {r : O V} (h : PostT κ X σ (B1 f r) QB E') (c : Cx κ X l σ) (k : ∀ v x σ₁, Aft κ X l σ σ₁ → Is σ₁ v x → PostT κ X σ₁ (f v σ₁.μ) QB E' → Q' x σ₁.s) : PostE κ X σ r Q' E' := PostT.bind (f := f) (r := r) h c k
theorem PostE.test {f g : Mem → O V} {r : O V} (h : PostE κ X σ (B2 (fun v μ => boolK (f μ) (g μ) v) r) Q E') (c : Cx κ X l σ)
   (k : ∀ b σ₁, Aft κ X l σ σ₁ → PostE κ X σ₁ (pick f g b σ₁.μ) Q E' → QB b σ₁.s) : PostT κ X σ (tb r) QB E' := by
 rw [tb_boolK] at h
 exact Post.bind h fun v μ₁ x ρ₁ s₁ st I r sm h => by cases (r : v = x); exact k v ⟨ρ₁, μ₁, s₁⟩ ⟨c.step ⟨st, sm⟩ I, st, sm⟩ h
theorem PostT.test {f g : Mem → O V} {r : O V} {QC : Bool → Shared → Prop} (h : PostT κ X σ (tb (B2 (fun v μ => boolK (f μ) (g μ) v) r)) QB E') (c : Cx κ X l σ)
   (k : ∀ b σ₁, Aft κ X l σ σ₁ → PostT κ X σ₁ (tb (pick f g b σ₁.μ)) QB E' → QC b σ₁.s) : PostT κ X σ (tb r) QC E' := by
 rw [tb_boolK] at h
 have h : PostT κ X σ (B2 (fun b μ => tb (pick f g b μ)) (tb r)) QB E' := by
   have e : ∀ r : O Bool, tb (B2 (pick f g) r) = B2 (fun b μ => tb (pick f g b μ)) r := fun r => by cases r <;> rfl
   rwa [e] at h
 exact Post.bind h fun v μ₁ x ρ₁ s₁ st I r sm h => by cases (r : v = x); exact k v ⟨ρ₁, μ₁, s₁⟩ ⟨c.step ⟨st, sm⟩ I, st, sm⟩ h
theorem PostE.lift {o : Option V} {μ : Mem} (h : PostE κ X σ (O.lift o μ) Q E') {R : Prop} (k : ∀ v, o = some v → Good Rel κ.base σ.ρ μ σ.s v Q → R) : R := by
 cases o with
 | none => exact h.elim
 | some v => exact k v rfl h
theorem PostE.liftB {o : Option Bool} {μ : Mem} (h : PostE κ X σ (O.lift (o.map V.bool) μ) Q E') (I : Inv κ.base σ.ρ μ σ.s.heap) {R : Prop} (k : ∀ b, o = some b → Q (.bool b) σ.s → R) : R := by
 cases o with
 | none => exact h.elim
 | some v => exact k v rfl (Good.plain' I h (.bool _))
theorem PostT.lift {o : Option Bool} {μ : Mem} (h : PostT κ X σ (tb (O.lift (o.map V.bool) μ)) QB E') (I : Inv κ.base σ.ρ μ σ.s.heap) {R : Prop} (k : ∀ b, o = some b → QB b σ.s → R) : R := by
 cases o with
 | none => exact h.elim
 | some v => exact k v rfl (PostT.plain h I)
theorem nt {b : Bool} (h : (!b) = true) : b = false := by cases b; rfl; exact ff h
theorem se_none : SE κ .none := fun x X l σ Q E' ht c h => tr_none ht fun kk p => wpAny_pure (h.plain' c.I .none)
theorem se_bool (b : Bool) : SE κ (.bool b) := fun x X l σ Q E' ht c h => tr_bool ht fun kk p => wpAny_pure (h.plain' c.I (.bool _))
theorem se_int (i : Int) : SE κ (.int i) := fun x X l σ Q E' ht c h => tr_int ht fun kk p => wpAny_Constant_int (h.plain c.I (.int _ _) _)
theorem se_str (t : List Nat) : SE κ (.str t) := fun x X l σ Q E' ht c h => tr_str ht fun kk p h1 h2 => wpAny_mkText (h.plain c.I (.str _ _ (Nat.le_trans h1 (by decide)) fun a q => of_decide_eq_true (List.all_eq_true.mp h2 a q)) _)
theorem se_loc (i : Nat) : SE κ (.loc i) := fun x X l σ Q E' ht c h => by
 refine tr_loc ht fun n p h1 h2 h3 => PostE.lift (o := (l[i]?).join) (μ := σ.μ) h fun v hv g => ?_
 obtain ⟨x, rx, hx⟩ := loc_ok (prog := κ.prog) (w := κ.w) (A := X.A) (E := E') c.K c.F h1 hv
 exact wpAny_Name (hx Q (Good.plain' c.I g rx) (nt h3)) (nt h2)
theorem se_gl (i : Nat) : SE κ (.gl i) := fun x X l σ Q E' ht c h => by
 refine tr_gl ht fun n p h1 h2 => PostE.lift (o := (globTab[i]?).map (·.2)) (μ := σ.μ) h fun v hv g => ?_
 obtain ⟨⟨n', v⟩, hp, rfl⟩ := Option.map_eq_some_iff.mp hv
 rw [hp] at h1
 cases h1
 obtain ⟨x, hx, rx⟩ := c.T.globs i n' v hp
 exact wpAny_Name (glob_ok c.K c.T c.I h2 hx (Good.plain' c.I g (rx.lift c.I))) (notDebug h2)
theorem se_bin {op : Bop} {a b : E} (ha : SE κ a) (hb : SE κ b) : SE κ (.bin op a b) := fun x X l σ Q E' ht c h =>
 tr_bin ht fun l0 r0 p h2 h3 => wpAny_BinOp (ha l0 X l σ _ E' h2 c (PostE.bind (f := binK op (xE κ.Φ b) l) h c fun v x σ₁ a₁ r₁ h₁ =>
   hb r0 X l σ₁ _ E' h3 a₁.c (PostE.bind1 (f := binK2 op v) h₁ a₁.c fun v' y σ₂ a₂ r₂ h₂ => PostE.lift (o := binV op v v') (μ := σ₂.μ) h₂ fun z hz g => binop_ok a₂.c.I (r₁.step a₂.t.st) r₂ hz g)))
theorem se_neg {a : E} (ha : SE κ a) : SE κ (.neg a) := fun x X l σ Q E' ht c h => by
 refine tr_neg ht fun y p h1 => wpAny_UnaryOp (ha y X l σ _ E' h1 c (PostE.bind (f := negK) h c fun v x σ₁ a₁ r₁ h₁ => ?_))
 cases v with
 | int i => exact neg_ok a₁.c.I r₁ h₁
 | _ => exact h₁.elim
theorem se_not {a : E} (ha : SE κ a) : SE κ (.not a) := fun x X l σ Q E' ht c h => by
 refine tr_not ht fun y p h1 => wpAny_UnaryOp (ha y X l σ _ E' h1 c (PostE.bind (f := notK) h c fun v x σ₁ a₁ r₁ h₁ => ?_))
 cases v with
 | bool b => exact r₁.boolI (not_of (wpAny_truthy_bool (h₁.plain' a₁.c.I (.bool _))))
 | _ => exact h₁.elim
theorem noMarks {op : CmpOp} {r : Expr} (h : notSet r = true) : behindInMarks op r = false := by
 cases r <;> first | rfl | exact ff h
theorem se_cmp {op : Cop} {a b : E} (ha : SE κ a) (hb : SE κ b) : SE κ (.cmp op a b) := fun x X l σ Q E' ht c h =>
 tr_cmp ht fun l0 r0 p h2 h3 h4 => wpAny_Compare1 (ha l0 X l σ _ E' h2 c (PostE.bind (f := cmpK op (xE κ.Φ b) l) h c fun v x σ₁ a₁ r₁ h₁ =>
   hb r0 X l σ₁ _ E' h3 a₁.c (PostE.bind1 (f := cmpK2 op v) h₁ a₁.c fun v' y σ₂ a₂ r₂ h₂ => PostE.liftB (o := cmpV σ₂.μ op v v') h₂ a₂.c.I fun r hr fin =>
     cmp_ok a₂.c.I a₂.c.room (r₁.step a₂.t.st) r₂ hr fin))) (noMarks h4)
noncomputable def chainE (prog : Program) (w : World) (A : Around) (env : Env) (a b c : Expr) (E' : QV) (s : Shared) (kf : Value → Shared → Prop) (kt : Value → Shared → Prop) : Prop :=
 wpAny (model prog w) A (eval a env) (fun x s₁ => wpAny (model prog w) A (eval b env) (fun y s₂ => wpAny (model prog w) A (compareOp .LtE x y) (fun r s₃ => wpAny (model prog w) A (truthy r)
     (fun t s₄ => if t then wpAny (model prog w) A (eval c env) (fun z s₅ => wpAny (model prog w) A (compareOp .LtE y z) kt E' s₅) E' s₄ else kf r s₄) E' s₃) E' s₂) E' s₁) E' s
section
variable {prog : Program} {w : World} {a b c : Expr} {pos : Pos} {env : Env} {A : Around} {s : Shared}
theorem tt_chain (hc : notSet c = true) (h : chainE prog w A env a b c E' s Q Q) : wpAny (model prog w) A (eval (.Compare a [.LtE, .LtE] [b, c] pos) env) Q E' s := by
 refine Compare_chain (wpAny_mono h (fun x s₁ h₁ => chain_link (wpAny_mono h₁ (fun y s₂ h₂ => wpAny_mono h₂ (fun r s₃ h₃ => wpAny_mono h₃ (fun t s₄ h₄ => ?_) fun _ _ e => e) fun _ _ e => e) fun _ _ e => e)) fun _ _ e => e) (by simpa [lastMarks] using noMarks hc)
 cases t
 · exact h₄
 · exact chain_last h₄
theorem tt_test {whole : Sem Value} (hc : notSet c = true) (h : chainE prog w A env a b c E' s (fun _ => QB false) (fun r' s₆ => wpAny (model prog w) A (truthy r') QB E' s₆)) :
   wpAny (model prog w) A (isTrue (.Compare a [.LtE, .LtE] [b, c] pos) env whole) QB E' s := by
 refine isTrue_chain (wpAny_mono h (fun x s₁ h₁ => test_link (wpAny_mono h₁ (fun y s₂ h₂ => wpAny_mono h₂ (fun r s₃ h₃ => wpAny_mono h₃ (fun t s₄ h₄ => ?_) fun _ _ e => e) fun _ _ e => e) fun _ _ e => e)) fun _ _ e => e) (by simpa [lastMarks] using noMarks hc)
 cases t
 · exact h₄
 · exact test_last h₄
end
theorem chain_run {e1 e2 e3 : E} (ha : SE κ e1) (hb : SE κ e2) (hc : SE κ e3) {a b c : Expr} (h1 : trE X.sc X.ns e1 a = true) (h2 : trE X.sc X.ns e2 b = true) (h3 : trE X.sc X.ns e3 c = true) (cx : Cx κ X l σ) {kf kt : QV}
   (h : PostE κ X σ (xE κ.Φ (.chain e1 e2 e3) l σ.μ) Q E') (k0 : ∀ σ₁ : Sg, Q (.bool false) σ₁.s → kf (.bool false) σ₁.s) (k1 : ∀ b s, Q (.bool b) s → kt (.bool b) s) :
   chainE κ.prog κ.w X.A X.env a b c E' σ.s kf kt := by
 refine ha a X l σ _ E' h1 cx (PostE.bind (f := chK (xE κ.Φ e2) (xE κ.Φ e3) l) h cx fun v x σ₁ a₁ r₁ h₁ => hb b X l σ₁ _ E' h2 a₁.c (PostE.bind1 (f := chK2 (xE κ.Φ e3) l v) h₁ a₁.c fun v' y σ₂ a₂ r₂ h₂ => ?_))
 unfold chK2 at h₂
 cases hl : leV v v' with
 | none => rw [hl] at h₂; exact h₂.elim
 | some bb =>
   rw [hl] at h₂
   refine le_ok (r₁.step a₂.t.st) r₂ hl (wpAny_truthy_bool ?_)
   cases bb with
   | false => exact k0 σ₂ (PostE.plain' h₂ a₂.c.I (.bool _))
   | true => exact hc c X l σ₂ _ E' h3 a₂.c (PostE.bind0 (f := chK3 v') h₂ a₂.c fun v'' z σ₃ a₃ r₃ h₃ => PostE.liftB (o := leV v' v'') h₃ a₃.c.I fun r hr g => le_ok (r₂.step a₃.t.st) r₃ hr (k1 r _ g))
theorem se_chain {a b c : E} (ha : SE κ a) (hb : SE κ b) (hc : SE κ c) : SE κ (.chain a b c) := fun x X l σ Q E' ht cx h =>
 tr_chain ht fun l0 m0 r0 p h1 h2 h3 h4 => tt_chain h4 (chain_run ha hb hc h1 h2 h3 cx h (fun _ q => q) fun _ _ q => q)
theorem se_ite {t a b : E} (ht' : ST κ t) (ha : SE κ a) (hb : SE κ b) : SE κ (.ite t a b) := fun x X l σ Q E' ht cx h => by
 refine tr_ite ht fun y0 l0 r0 p h1 h2 h3 => wpAny_IfExp (ht' y0 X l σ _ E' h1 cx (PostE.test (f := xE κ.Φ a l) (g := xE κ.Φ b l) h cx fun bb σ₁ a₁ h₁ => ?_))
 cases bb
 · exact hb r0 X l σ₁ _ E' h3 a₁.c h₁
 · exact ha l0 X l σ₁ _ E' h2 a₁.c h₁
theorem starEach_cons {x : Expr} {r : List Expr} {env : Env} (h : notStar x = true) : starEach (x :: r) env = (false, eval x env) :: starEach r env := by
 cases x <;> first | rfl | exact ff h
theorem ses_nil : SEs κ .nil := fun xs pos X l σ Q E' ht c h => trEs_nil ht (spliced_nil (h [] σ.ρ σ.s (Step.refl ..) c.I .nil (Same.refl _)))
theorem ses_cons {e : E} {es : Es} (he : SE κ e) (hes : SEs κ es) : SEs κ (.cons e es) := fun xs pos X l σ Q E' ht c h => by
 refine trEs_cons ht fun x r h1 h2 h3 => ?_
 rw [starEach_cons h2]
 show wpAny _ X.A (spliced ((false, eval x X.env) :: backTo pos (starEach r X.env))) Q E' σ.s
 refine spliced_cons (he x X l σ _ E' h1 c (Post.bind (f := consK (xEs κ.Φ es) l) h fun v μ₁ x ρ₁ s₁ st I₁ r₁ sm h₁ => ?_))
 refine hes r pos X l ⟨ρ₁, μ₁, s₁⟩ _ E' h3 (c.step ⟨st, sm⟩ I₁) (Post.bind1 (f := consK2 v) h₁ fun vs μ₂ ys ρ₂ s₂ st₂ I₂ r₂ sm₂ h₂ => ?_)
 exact h₂ (x :: ys) ρ₂ s₂ (Step.refl ..) I₂ (.cons (r₁.step st₂) r₂) (Same.refl _)
theorem sand_nil : SAnd κ .nil := fun xs pos X l σ Q E' hne ht c h => absurd (trEs_nil (P := fun xs => xs = []) ht rfl) hne
theorem sor_nil : SOr κ .nil := fun xs pos X l σ Q E' hne ht c h => absurd (trEs_nil (P := fun xs => xs = []) ht rfl) hne
theorem trEs_cons_ne {e : E} {es : Es} {sc : Scope} {ns : List Str} (h : trEs sc ns (.cons e es) [] = true) {P : Prop} : P := trEs_cons (P := fun xs => xs = [] → P) h (fun _ _ _ _ _ q => nomatch q) rfl
theorem sand_cons {e : E} {es : Es} (he : SE κ e) (hes : SAnd κ es) : SAnd κ (.cons e es) := fun xs pos X l σ Q E' hne ht c h => by
 refine trEs_cons (P := fun xs => wpAny κ.M X.A (eval (.BoolOp .And xs pos) X.env) Q E' σ.s) ht fun x r h1 h2 h3 => ?_
 cases r with
 | nil =>
   refine BoolOp_one (he x X l σ _ E' h1 c (PostE.bind (f := andK (xAnd κ.Φ es) l) h c fun v x σ₁ a₁ r₁ h₁ => ?_))
   cases es with
   | cons e' es' => exact trEs_cons_ne h3
   | nil => cases v with
     | bool bb => cases bb <;> exact h₁.plain' a₁.c.I r₁
     | _ => exact h₁.elim
 | cons x' r' =>
   refine BoolOp_and (he x X l σ _ E' h1 c (PostE.bind (f := andK (xAnd κ.Φ es) l) h c fun v x σ₁ a₁ r₁ h₁ => ?_))
   cases v with
   | bool bb =>
     refine r₁.boolI (wpAny_truthy_bool ?_)
     cases bb
     · exact h₁.plain' a₁.c.I (.bool _)
     · exact hes _ pos X l σ₁ _ E' (List.cons_ne_nil _ _) h3 a₁.c h₁
   | _ => exact h₁.elim
theorem sor_cons {e : E} {es : Es} (he : SE κ e) (hes : SOr κ es) : SOr κ (.cons e es) := fun xs pos X l σ Q E' hne ht c h => by
 refine trEs_cons (P := fun xs => wpAny κ.M X.A (eval (.BoolOp .Or xs pos) X.env) Q E' σ.s) ht fun x r h1 h2 h3 => ?_
 cases r with
 | nil =>
   refine BoolOp_one (he x X l σ _ E' h1 c (PostE.bind (f := orK (xOr κ.Φ es) l) h c fun v x σ₁ a₁ r₁ h₁ => ?_))
   cases es with
   | cons e' es' => exact trEs_cons_ne h3
   | nil => cases v with
     | bool bb => cases bb <;> exact h₁.plain' a₁.c.I r₁
     | _ => exact h₁.elim
 | cons x' r' =>
   refine BoolOp_or (he x X l σ _ E' h1 c (PostE.bind (f := orK (xOr κ.Φ es) l) h c fun v x σ₁ a₁ r₁ h₁ => ?_))
   cases v with
   | bool bb =>
     refine r₁.boolI (wpAny_truthy_bool ?_)
     cases bb
     · exact hes _ pos X l σ₁ _ E' (List.cons_ne_nil _ _) h3 a₁.c h₁
     · exact h₁.plain' a₁.c.I (.bool _)
   | _ => exact h₁.elim
theorem ne_of_two {xs : List Expr} (h : 2 ≤ xs.length) : xs ≠ [] := fun q => by rw [q] at h; exact absurd h (by decide)
theorem se_and {es : Es} (h' : SAnd κ es) : SE κ (.and es) := fun x X l σ Q E' ht c h => tr_and ht fun xs p h1 h2 => h' xs p X l σ Q E' (ne_of_two h2) h1 c h
theorem se_or {es : Es} (h' : SOr κ es) : SE κ (.or es) := fun x X l σ Q E' ht c h => tr_or ht fun xs p h1 h2 => h' xs p X l σ Q E' (ne_of_two h2) h1 c h
end
end Mine
end
section
open PySem PySem.W PyProof.Rows PySem.Calls
namespace Mine
noncomputable def Es.len (es : Es) : Nat := @Es.rec (fun _ => Unit) (fun _ => Nat) () (fun _ => ()) (fun _ => ()) (fun _ => ()) (fun _ => ()) (fun _ => ()) (fun _ _ _ _ _ => ()) (fun _ _ => ()) (fun _ _ => ()) (fun _ _ _ _ _ => ()) (fun _ _ _ _ _ _ => ()) (fun _ _ => ()) (fun _ _ => ()) (fun _ _ _ _ _ _ => ()) (fun _ _ => ()) (fun _ _ => ()) (fun _ _ => ())
 (fun _ _ _ _ => ()) (fun _ _ _ _ _ _ => ()) (fun _ _ _ => ()) (fun _ _ _ => ()) (fun _ _ _ _ _ => ()) (fun _ _ => ()) (fun _ _ => ()) (fun _ _ => ()) (fun _ _ _ _ _ _ _ => ()) 0 (fun _ _ _ n => n + 1) es
theorem Es.ind {P : Es → Prop} (h0 : P .nil) (h1 : ∀ e es, P es → P (.cons e es)) (es : Es) : P es :=
 @Es.rec (fun _ => True) P trivial (fun _ => trivial) (fun _ => trivial) (fun _ => trivial) (fun _ => trivial) (fun _ => trivial) (fun _ _ _ _ _ => trivial) (fun _ _ => trivial) (fun _ _ => trivial) (fun _ _ _ _ _ => trivial) (fun _ _ _ _ _ _ => trivial) (fun _ _ => trivial) (fun _ _ => trivial) (fun _ _ _ _ _ _ => trivial) (fun _ _ => trivial) (fun _ _ => trivial) (fun _ _ => trivial)
 (fun _ _ _ _ => trivial) (fun _ _ _ _ _ _ => trivial) (fun _ _ _ => trivial) (fun _ _ _ => trivial) (fun _ _ _ _ _ => trivial) (fun _ _ => trivial) (fun _ _ => trivial) (fun _ _ => trivial) (fun _ _ _ _ _ _ _ => trivial) h0 (fun e es _ ih => h1 e es ih) es
theorem trEs_len {sc : Scope} {ns : List Str} (es : Es) : ∀ (xs : List Expr), trEs sc ns es xs = true → xs.length = es.len :=
 Es.ind (P := fun es => ∀ (xs : List Expr), trEs sc ns es xs = true → xs.length = es.len) (fun xs h => trEs_nil (P := fun xs => xs.length = 0) h rfl)
   (fun e es ih xs h => trEs_cons (P := fun xs => xs.length = es.len + 1) h fun x r _ _ h3 => congrArg (· + 1) (ih r h3)) es
theorem xEs_len {Φ : OK} (es : Es) : ∀ (l : Loc) (μ : Mem) (vs : List V) (μ' : Mem), xEs Φ es l μ = .ok vs μ' → vs.length = es.len :=
 Es.ind (P := fun es => ∀ (l : Loc) (μ : Mem) (vs : List V) (μ' : Mem), xEs Φ es l μ = .ok vs μ' → vs.length = es.len) (fun l μ vs μ' h => by cases (show O.ok [] μ = .ok vs μ' from h); rfl)
   (fun e es ih l μ vs μ' h => by
     rw [es_cons] at h
     cases h1 : xE Φ e l μ with
     | ok v μ₁ =>
       rw [h1] at h
       have h : B1 (consK2 v) (xEs Φ es l μ₁) = .ok vs μ' := h
       cases h2 : xEs Φ es l μ₁ with
       | ok ws μ₂ => rw [h2] at h; cases (show O.ok (v :: ws) μ₂ = .ok vs μ' from h); exact congrArg (· + 1) (ih l μ₁ ws _ h2)
       | _ => rw [h2] at h; exact O.noConfusion rfl (heq_of_eq h)
     | _ => rw [h1] at h; exact O.noConfusion rfl (heq_of_eq h)) es
theorem trEs_plain {sc : Scope} {ns : List Str} (pos : Pos) (env : Env) (es : Es) : ∀ (xs : List Expr), trEs sc ns es xs = true → (backTo pos (starEach xs env)).any (·.1) = false ∧ (backTo pos (starEach xs env)).all (fun x => !x.1) = true :=
 Es.ind (P := fun es => ∀ (xs : List Expr), trEs sc ns es xs = true → (backTo pos (starEach xs env)).any (·.1) = false ∧ (backTo pos (starEach xs env)).all (fun x => !x.1) = true)
   (fun xs h => trEs_nil (P := fun xs => (backTo pos (starEach xs env)).any (·.1) = false ∧ (backTo pos (starEach xs env)).all (fun x => !x.1) = true) h ⟨rfl, rfl⟩)
   (fun e es ih xs h => trEs_cons (P := fun xs => (backTo pos (starEach xs env)).any (·.1) = false ∧ (backTo pos (starEach xs env)).all (fun x => !x.1) = true) h fun x r _ h2 h3 => by
     rw [starEach_cons h2]
     exact ih r h3) es
section
variable {κ : Kn} {X : Ct} {l : Loc} {σ σ₁ : Sg} {Q Q' E' : QV} {v : V} {x : Value}
theorem args_ok {es : Es} (hes : SEs κ es) {xs : List Expr} {pos : Pos} {f : Value} {Q : Args → Shared → Prop} (ht : trEs X.sc X.ns es xs = true) (c : Cx κ X l σ)
   (h : PostL κ X σ (xEs κ.Φ es l σ.μ) (fun vs s' => Q ⟨vs, []⟩ s') E') : wpAny κ.M X.A (evalArgs f true (backTo pos (starEach xs X.env)) []) Q E' σ.s := by
 have hsp := hes xs pos X l σ _ E' ht c h
 cases es with
 | nil => exact trEs_nil (P := fun xs => wpAny κ.M X.A (evalArgs f true (backTo pos (starEach xs X.env)) []) Q E' σ.s) ht (PySem.evalArgs_none (h [] σ.ρ σ.s (Step.refl ..) c.I .nil (Same.refl _)))
 | cons e es =>
   revert hsp
   refine trEs_cons (P := fun xs => wpAny κ.M X.A (spliced (backTo pos (starEach xs X.env))) _ E' σ.s → wpAny κ.M X.A (evalArgs f true (backTo pos (starEach xs X.env)) []) Q E' σ.s) ht fun x r h1 h2 h3 hsp => ?_
   rw [starEach_cons h2] at hsp ⊢
   exact evalArgs_plain hsp
theorem PostE.row {es : Es} {xs : List Expr} {f : List V → Mem → O V} (h : PostE κ X σ (B2 f (xEs κ.Φ es l σ.μ)) Q E') (c : Cx κ X l σ) (ht : trEs X.sc X.ns es xs = true) (hl : xs.length ≤ 1000) {Q' : List Value → Shared → Prop}
   (k : ∀ vs ys σ₁, Aft κ X l σ σ₁ → RelL σ₁.ρ σ₁.s.heap vs ys → ys.length ≤ LIM → vs.length ≤ LIM → PostE κ X σ₁ (f vs σ₁.μ) Q E' → Q' ys σ₁.s) : PostL κ X σ (xEs κ.Φ es l σ.μ) Q' E' :=
 Post.bindE h fun vs μ₁ ys ρ₁ s₁ hq st I r sm h =>
   have hv : vs.length ≤ LIM := Nat.le_trans (Nat.le_of_eq ((xEs_len es _ _ _ _ hq).trans (trEs_len es xs ht).symm)) (Nat.le_trans hl (by decide))
   k vs ys ⟨ρ₁, μ₁, s₁⟩ ⟨c.step ⟨st, sm⟩ I, st, sm⟩ r (r.length ▸ hv) hv h
theorem se_tup {es : Es} (hes : SEs κ es) : SE κ (.tup es) := fun x X l σ Q E' ht c h =>
 tr_tup ht fun xs kk p h1 h2 => wpAny_Tuple_spliced (hes xs _ X l σ _ E' h1 c (PostE.row (f := tupK) h c h1 h2 fun vs ys σ₁ a₁ r₁ hl _ h₁ => ⟨LIM_fits hl, Good.grown (n := σ₁.s.toks) a₁.c.I h₁ (push_keeps _) (Rel.newTup a₁.c.I r₁ hl)⟩))
theorem se_il {es : Es} (hes : SEs κ es) : SE κ (.il es) := fun x X l σ Q E' ht c h =>
 tr_il ht fun xs p h1 h2 => wpAny_List_spliced (hes xs _ X l σ _ E' h1 c (PostE.row (f := ilK) h c h1 h2 fun vs ys σ₁ a₁ r₁ hl _ h₁ => ⟨LIM_fits hl, Good.grown (n := σ₁.s.toks) a₁.c.I h₁ (push_keeps _) (Rel.newIl a₁.c.I r₁ hl)⟩))
theorem se_ml {es : Es} (hes : SEs κ es) : SE κ (.ml es) := fun x X l σ Q E' ht c h =>
 tr_ml ht fun xs p h1 h2 => wpAny_List_spliced (hes xs _ X l σ _ E' h1 c (PostE.row (f := allocV) h c h1 h2 fun vs ys σ₁ a₁ r₁ hl hv h₁ => by
   refine ⟨LIM_fits hl, ?_⟩
   unfold allocV at h₁
   rw [if_pos hv] at h₁
   obtain ⟨I₂, st₂⟩ := a₁.c.I.alloc r₁ hl
   refine h₁ _ _ { σ₁.s with heap := _ } st₂ I₂ (.ref ?_) ⟨rfl, rfl⟩
   rw [← a₁.c.I.len, List.getElem?_append_right (Nat.le_refl _), Nat.sub_self]; rfl))
theorem se_idx {a i : E} (ha : SE κ a) (hi : SE κ i) : SE κ (.idx a i) := fun x X l σ Q E' ht c h => by
 refine tr_idx ht fun l0 r0 p h1 h2 h3 => Subscript_ (ha l0 X l σ _ E' h1 c (PostE.bind (f := idxK (xE κ.Φ i) l) h c fun v x σ₁ a₁ r₁ h₁ =>
   hi r0 X l σ₁ _ E' h2 a₁.c (PostE.bind1 (f := idxK2 v) h₁ a₁.c fun v' y σ₂ a₂ r₂ h₂ => PostE.lift (o := idxV σ₂.μ v v') (μ := σ₂.μ) h₂ fun z hz g => ?_)))
 obtain ⟨T, id, hT, hl, hg⟩ := item_ok (prog := κ.prog) (w := κ.w) (A := X.A) (E := E') a₂.c.I (r₁.step a₂.t.st) r₂ hz g
 refine tail_any (ops := [x, y]) hT hl hg ?_
 cases r0 <;> first | rfl | exact ff h3
theorem isNo_inv {P : E → Prop} {e : E} (h : e.isNo = true) (k : P .none) : P e := by cases e <;> first | exact k | exact ff h
theorem part_ok {e : E} {y : Option Expr} (ht : trO e.isNo (trE X.sc X.ns e) y = true) (he : SE κ e) (c : Cx κ X l σ) (h : PostE κ X σ (xE κ.Φ e l σ.μ) Q E') : wpAny κ.M X.A (evalPart y X.env) Q E' σ.s := by
 cases y with
 | some x => rw [evalPart_some]; exact he x X l σ Q E' ht c h
 | none =>
   rw [evalPart_none]
   exact isNo_inv (P := fun e => PostE κ X σ (xE κ.Φ e l σ.μ) Q E' → _) ht (fun h => wpAny_pure (PostE.plain' h c.I .none)) h
theorem se_slice {a lo hi : E} (ha : SE κ a) (hlo : SE κ lo) (hhi : SE κ hi) : SE κ (.slice a lo hi) := fun x X l σ Q E' ht c h => by
 refine tr_slice ht fun l0 y0 z0 q p h1 h2 h3 => Subscript_ (ha l0 X l σ _ E' h1 c (PostE.bind (f := slK (xE κ.Φ lo) (xE κ.Φ hi) l) h c fun v x σ₁ a₁ r₁ h₁ =>
   wpAny_Slice (part_ok h2 hlo a₁.c (PostE.bind1 (f := slK2 (xE κ.Φ hi) l v) h₁ a₁.c fun vl y σ₂ a₂ r₂ h₂ => part_ok h3 hhi a₂.c (PostE.bind0 (f := slK3 v vl) h₂ a₂.c fun vu z σ₃ a₃ r₃ h₃ => ?_)))))
 rw [evalPart_none]
 refine wpAny_pure (PostE.lift (o := sliceV v vl vu) (μ := σ₃.μ) h₃ fun u hu g => ?_)
 obtain ⟨T, id, hT, hl, hg⟩ := slice_ok (prog := κ.prog) (w := κ.w) (A := X.A) (E := E') a₃.c.I (r₁.step (a₂.t.trans a₃.t).st) (r₂.step a₃.t.st) r₃ hu g
 exact tail_any (ops := [_, x]) hT hl hg rfl
theorem se_call {f : Nat} {es : Es} (hΦ : SoundΦ κ) (hes : SEs κ es) : SE κ (.call f es) := fun x X l σ Q E' ht c h => by
 refine tr_call ht fun n0 q xs p0 h1 h2 h3 h4 => ?_
 obtain ⟨fn, hf, rfl⟩ : ∃ fn, fnTab[f]? = some fn ∧ Str.ofString fn.name = n0 := by
   unfold fnNames at h1
   rw [List.getElem?_map] at h1
   exact Option.map_eq_some_iff.mp h1
 obtain ⟨a, fd, body, hm, Y⟩ := c.T.fns f fn hf
 obtain ⟨o, ho, hd⟩ := Y.at_
 refine wpAny_Call_ofName (wpAny_Name (glob_ok c.K c.T c.I h2 hm ?_) (notDebug h2))
 show wpAny _ X.A (callWith p0 (.ref a) [] (backTo p0 (starEach xs X.env)) []) Q E' σ.s
 refine callWith_function (o := o) (fd := fd) (args_ok hes h3 c (Post.bind (f := κ.Φ f) h fun vs μ₁ xs ρ₁ s₁ st I₁ r₁ sm h₁ => ?_))
 exact ⟨⟨I₁.stays _ _ ho, hd⟩, hΦ f fn a vs xs X ⟨ρ₁, μ₁, s₁⟩ Q E' hf hm (c.a.step st) I₁ r₁ h₁⟩
theorem se_bi {f : Bi} {es : Es} (hes : SEs κ es) : SE κ (.bi f es) := fun x X l σ Q E' ht c h => by
 refine tr_bi ht fun q xs p0 h2 h3 h4 => ?_
 obtain ⟨b1, b2⟩ := c.T.bis f
 refine wpAny_Call_ofName (wpAny_Name (blt_ok c.K c.T c.I h2 b1 b2 ?_) (notDebug h2))
 show wpAny _ X.A (callWith p0 (biVal f) [] (backTo p0 (starEach xs X.env)) []) Q E' σ.s
 have hp := (trEs_plain p0 X.env es xs h3).1
 have key : ∀ fv, wpAny κ.M X.A (evalArgs fv true (backTo p0 (starEach xs X.env)) []) (fun a s₁ => wpAny κ.M X.A (call (biVal f) ([] ++ a.pos) a.kw) Q E' s₁) E' σ.s := fun fv =>
   args_ok hes h3 c (Post.bind (f := biK f) h fun vs μ₁ xs ρ₁ s₁ st I₁ r₁ sm h₁ => PostE.lift (σ := ⟨ρ₁, μ₁, s₁⟩) (o := biV μ₁ f vs) (μ := μ₁) h₁ fun z hz g => bi_ok c.a.handled I₁ r₁ hz g)
 cases f with
 | str => exact PySem.callWith_type hp (key _)
 | _ => exact callWith_builtin hp (key _)
end
end Mine
end
section
open PySem PySem.W PyProof.Rows PySem.Calls
namespace Mine
theorem base_plain {o : Expr} {n : Str} {env : Env} {t : Sem Value} (h : notCall o = true) : attributeBase o n env t = t := by
 cases o <;> first | rfl | exact ff h
noncomputable def meType (m : Me) : String := match m with
 | .pop => "list"
 | _ => "str"
noncomputable def meId (m : Me) : String := match m with
 | .find => "str.find" | .lower => "str.lower" | .strip => "str.strip" | .partition => "str.partition" | .join => "str.join" | .pop => "list.pop"
theorem me_slot (m : Me) : Slot (meType m) (meName m) (meId m) := by
 cases m
 · exact F.slot_str_find
 · exact F.slot_str_lower
 · exact F.slot_str_strip
 · exact F.slot_str_partition
 · exact F.slot_str_join
 · exact F.slot_list_pop
theorem me_type (m : Me) : typeOf (.builtin (meId m)) = pure (.type "method_descriptor") := by
 cases m
 · exact F.type_str_find
 · exact F.type_str_lower
 · exact F.type_str_strip
 · exact F.type_str_partition
 · exact F.type_str_join
 · exact F.type_list_pop
theorem me_attrs (m : Me) : PlainAttrs (meType m) := by
 cases m
 case pop => exact F.plainAttrs_list
 all_goals exact F.plainAttrs_str
section
variable {κ : Kn} {X : Ct} {l : Loc} {σ σ₁ : Sg} {Q Q' E' : QV} {v : V} {x : Value}
noncomputable def OkMe (σ : Sg) (x : Value) (T : String) : Prop := σ.s.TypeIs x T ∧ ∀ a, x = .ref a → ∃ ob, σ.s.heap.get? a = some ob ∧ ob.dict = none
theorem okMe_type {m : Me} (I : Inv κ.base σ.ρ σ.μ σ.s.heap) (r : Is σ v x) (h : okMe m v = true) : OkMe σ x (meType m) := by
 have str : okMe .find v = true → OkMe σ x "str" := fun h => by
   cases v with
   | str l => exact r.strI fun t _ _ => ⟨typeIs_str _ _ _, fun a q => nomatch q⟩
   | _ => exact ff h
 cases m with
 | pop =>
   cases v with
   | ref i =>
     refine r.refI fun a h1 => ?_
     obtain ⟨vals, n, e⟩ := I.at (List.mem_of_getElem? h1)
     exact ⟨⟨_, e, rfl⟩, fun b q => by cases q; exact ⟨_, e, rfl⟩⟩
   | _ => exact ff h
 | _ => exact str h
theorem se_me {m : Me} {a : E} {es : Es} (ha : SE κ a) (hes : SEs κ es) : SE κ (.me m a es) := fun x X l σ Q E' ht c h => by
 refine tr_me ht fun o0 ap xs p0 h2 h3 h4 h5 h6 => ?_
 have hp := trEs_plain p0 X.env es xs h5
 refine wpAny_Call_method (T := meType m) (id := meId m) (base_plain h3) ?_ h2 (me_attrs m) (me_slot m) (me_type m) (ha o0 X l σ _ E' h4 c (PostE.bind (f := meK m (xEs κ.Φ es) l) h c fun v x σ₁ a₁ r₁ h₁ => ?_))
 · simp only [Bool.and_eq_true, hp.2, true_and]
   refine ⟨rfl, decide_eq_true ?_⟩
   simp; lia
 unfold meK at h₁
 cases hok : okMe m v with
 | false => rw [hok] at h₁; exact h₁.elim
 | true =>
 rw [hok, if_pos rfl] at h₁
 obtain ⟨t1, t2⟩ := okMe_type a₁.c.I r₁ hok
 refine ⟨t1, t2, callWith_builtin hp.1 (args_ok hes h5 a₁.c (Post.bind1 h₁ fun vs μ₂ ys ρ₂ s₂ st₂ I₂ r₂ sm₂ h₂ => ?_))⟩
 show wpAny _ X.A (call (.builtin (meId m)) (x :: ys)) Q E' s₂
 cases m with
 | pop =>
   cases vs with
   | cons => exact h₂.elim
   | nil => exact r₂.nilI (P := fun ys => wpAny _ X.A (call (.builtin "list.pop") (x :: ys)) Q E' s₂) (pop_ok I₂ (r₁.step st₂) h₂)
 | _ => exact PostE.lift (σ := ⟨ρ₂, μ₂, s₂⟩) (μ := μ₂) h₂ fun z hz g => me_ok I₂ (r₁.step st₂) r₂ hz g
theorem isEsc_val (l : List Nat) : escIn l = KTD.inKeys (⟨l.toArray⟩ : Str) escD := by
 unfold escD
 rw [tab_keys]; rfl
theorem inEsc_run {a : E} (ha : SE κ a) {e : Expr} {n : Pos} {E'' : QV} {k : QV} (h2 : glob? X.sc ("SHORT_ESCAPES" : Str) = true) (h3 : trE X.sc X.ns a e = true) (c : Cx κ X l σ) (h : PostE κ X σ (xE κ.Φ (.inEsc a) l σ.μ) Q E')
   (kk : ∀ b s', Q (.bool b) s' → k (.bool b) s') : wpAny κ.M X.A (eval e X.env) (fun x s₁ => wpAny κ.M X.A (eval (.Name "SHORT_ESCAPES" n) X.env) (fun y s₂ => wpAny κ.M X.A (compareOp .In x y) k E' s₂) E' s₁) E' σ.s := by
 refine ha e X l σ _ E' h3 c (PostE.bind (f := inEscK) h c fun v x σ₁ a₁ r₁ h₁ => ?_)
 obtain ⟨aD, hm, hT⟩ := a₁.c.T.esc
 refine wpAny_Name (glob_ok a₁.c.K a₁.c.T a₁.c.I h2 hm ?_) (notDebug h2)
 cases v with
 | str ls =>
   refine r₁.strI fun t _ _ => KTD.in_text (Here.of a₁.c.I hT) ?_
   rw [← isEsc_val]
   exact kk _ _ (PostE.plain h₁ a₁.c.I (.bool (escIn ls)) _)
 | _ => exact h₁.elim
theorem se_inEsc {a : E} (ha : SE κ a) : SE κ (.inEsc a) := fun x X l σ Q E' ht c h =>
 tr_inEsc ht fun l0 q p h2 h3 => wpAny_Compare1 (inEsc_run (E'' := E') ha h2 h3 c h fun _ _ q => q) rfl
theorem eachL_of {h : Heap} {k : Str} {P : Value → Prop} : ∀ (D : List (Str × KTD.Dat)), (∀ dd, KTD.datumAt k D = some dd → KTD.Opened h P dd) → KTD.EachL h k P D
 | [], _ => trivial
 | [(x, dd)], hd => fun q => hd dd (by simp [KTD.datumAt, q])
 | (x, dd) :: p :: D, hd => by
   show if decide (k = x) = true then KTD.Opened h P dd else KTD.EachL h k P (p :: D)
   by_cases q : k = x
   · rw [if_pos (decide_eq_true q)]; exact hd dd (by simp [KTD.datumAt, q])
   · rw [if_neg (by simp [q])]; exact eachL_of (p :: D) fun e he => hd e (by show (if decide (k = x) = true then some dd else KTD.datumAt k (p :: D)) = some e; rw [if_neg (by simp [q])]; exact he)
theorem each_of {h : Heap} {k : Str} {P : Value → Prop} {els : Prop} : ∀ (D : List (Str × KTD.Dat)), (∀ dd, KTD.datumAt k D = some dd → KTD.Opened h P dd) → (KTD.datumAt k D = none → els) → KTD.Each h k P els D
 | [], _, he => he rfl
 | (x, dd) :: D, hd, he => by
   show if decide (k = x) = true then KTD.Opened h P dd else KTD.Each h k P els D
   by_cases q : k = x
   · rw [if_pos (decide_eq_true q)]; exact hd dd (by simp [KTD.datumAt, q])
   · rw [if_neg (by simp [q])]
     refine each_of D (fun e he' => hd e ?_) fun he' => he ?_
     · show (if decide (k = x) = true then some dd else KTD.datumAt k D) = some e
       rw [if_neg (by simp [q])]; exact he'
     · show (if decide (k = x) = true then some dd else KTD.datumAt k D) = none
       rw [if_neg (by simp [q])]; exact he'
theorem tabs_small : (∀ p ∈ escTab, p.2 < 1114112) ∧ ∀ p ∈ closeTab, p.2 < 1114112 := by decide
theorem se_getEsc {a : E} (ha : SE κ a) : SE κ (.getEsc a) := fun x X l σ Q E' ht c h => by
 refine tr_getEsc ht fun n0 r0 p0 h2 h3 h4 => ?_
 obtain ⟨aD, hm, hT⟩ := c.T.esc
 refine Subscript_ (wpAny_Name (glob_ok c.K c.T c.I h2 hm ?_) (notDebug h2))
 refine ha r0 X l σ _ E' h3 c (PostE.bind (f := getEscK) h c fun v x σ₁ a₁ r₁ h₁ => PostE.lift (o := (escV v).map fun c => V.str [c]) (μ := σ₁.μ) h₁ fun z hz => mapI hz fun e he g =>
   onStr_rel (P := fun x => wpAny κ.M X.A (subscriptTail (.Name "SHORT_ESCAPES" n0) r0 (.ref aD) x) Q E' σ₁.s) he r₁ fun ls t _ _ he => ?_)
 refine sign_inv he fun cc he => ?_
 have hk : KTD.datumAt (⟨#[cc]⟩ : Str) escD = some (.flat (.str ⟨#[e]⟩)) := by unfold escD; rw [tab_lookup, he]; rfl
 refine KTD.item_text (D := escD) (k := ⟨#[cc]⟩) (Here.of a₁.c.I hT) (by rw [← KTD.isSome_datumAt, hk]; rfl) (eachL_of _ fun dd hdd => ?_) (by cases r0 <;> first | rfl | exact ff h4) (fun _ => rfl)
 rw [hk] at hdd; cases hdd
 exact fun t' => Good.plain a₁.c.I g (Rel.char (tabs_small.1 _ (mem_of_lookup he)) _) _
@[elab_as_elim] theorem isLoc_inv {P : E → Prop} {e : E} (h : e.isLoc = true) (k : ∀ i, P (.loc i)) : P e := by cases e <;> first | exact k _ | exact ff h
theorem loc_twice {i : Nat} {f : V → Mem → O V} (h : PostE κ X σ (B2 f (xE κ.Φ (.loc i) l σ.μ)) Q E') {R : Prop} (k : ∀ v, xE κ.Φ (.loc i) l σ.μ = .ok v σ.μ → PostE κ X σ (f v σ.μ) Q E' → R) : R := by
 rw [e_loc] at h k
 cases ho : (l[i]?).join with
 | none => rw [ho] at h; exact h.elim
 | some v => rw [ho] at h k; exact k v rfl h
theorem closer_end {aD : Addr} {cc : Nat} {t u : Tok} (c : Cx κ X l σ) (hT : KTD.TextTab κ.base aD closeD) (hc : cc < 1114112) (g : Good Rel κ.base σ.ρ σ.μ σ.s (.str [(closeTab.lookup cc).getD cc]) Q) :
   wpAny κ.M X.A (call (.builtin "dict.get") [.ref aD, .str ⟨#[cc]⟩ t, .str ⟨#[cc]⟩ u]) Q E' σ.s := by
 have hk : KTD.datumAt (⟨#[cc]⟩ : Str) closeD = (closeTab.lookup cc).map fun e => KTD.Dat.flat (.str ⟨#[e]⟩) := by unfold closeD; rw [tab_lookup]
 refine KTD.get2_text (D := closeD) (Here.of c.I hT) (each_of _ (fun dd hdd => ?_) fun hn => ?_)
 · rw [hk] at hdd
   refine mapI hdd fun e he => ?_
   rw [he] at g
   exact fun t' => Good.plain c.I g (Rel.char (tabs_small.2 _ (mem_of_lookup he)) _) _
 · rw [hk] at hn
   rw [Option.map_eq_none_iff.mp hn] at g
   exact Good.plain c.I g (Rel.char hc _) _
theorem se_closer {a : E} (ha : SE κ a) : SE κ (.closer a) := fun x X l σ Q E' ht c h => by
 refine tr_closer ht fun q ap y0 z0 p0 h3 h4 h5 h6 h7 h8 h9 => ?_
 revert ha h h5 h6
 refine isLoc_inv h9 fun i ha h h5 h6 => loc_twice (f := closerK) h fun v hl h => ?_
 obtain ⟨aD, hm, hT⟩ := c.T.close
 have hH := Here.of c.I hT
 have hs : starEach [y0, z0] X.env = [(false, eval y0 X.env), (false, eval z0 X.env)] := by rw [starEach_cons h7, starEach_cons h8]; rfl
 refine wpAny_Call_method (T := "dict") (id := "dict.get") rfl (by rw [hs]; rfl) h3 F.plainAttrs_dict F.slot_dict_get F.type_dict_get (wpAny_Name (glob_ok c.K c.T c.I h4 hm ?_) (notDebug h4))
 refine ⟨hH.typeIs, hH.noDict, ?_⟩
 rw [hs]
 show wpAny _ X.A (callWith p0 (.builtin "dict.get") [.ref aD] ((false, eval y0 X.env) :: [(false, eval z0 X.env)]) []) Q E' σ.s
 refine callWith_builtin rfl (evalArgs_plain (spliced_cons ?_))
 refine PostE.lift (o := closerV v) (μ := σ.μ) h fun z hz g => ?_
 refine ha y0 X l σ _ E' h5 c ?_
 rw [hl]
 intro x ρ₁ s₁ st I₁ r₁ sm
 have c₁ := c.step (σ₁ := ⟨ρ₁, σ.μ, s₁⟩) ⟨st, sm⟩ I₁
 refine spliced_cons (ha z0 X l ⟨ρ₁, σ.μ, s₁⟩ _ E' h6 c₁ ?_)
 rw [hl]
 intro y ρ₂ s₂ st₂ I₂ r₂ sm₂
 refine spliced_nil ?_
 cases v with
 | str ls =>
   refine (r₁.step st₂).strI fun t _ hc => r₂.strI fun u _ _ => ?_
   revert hc
   refine sign_inv hz fun cc hz hc => ?_
   cases hz
   exact closer_end (u := u) (c₁.step (σ₁ := ⟨ρ₂, σ.μ, s₂⟩) ⟨st₂, sm₂⟩ I₂) hT (hc cc (.head _)) fun x ρ' s' st' I' r' sm' => g x ρ' s' ((st.trans st₂).trans st') I' r' ((sm.trans sm₂).trans sm')
 | _ => exact nof hz
end
end Mine
end
section
open PySem PySem.W PyProof.Rows PySem.Calls
namespace Mine
theorem Inv.butDict {base : Heap} {ρ : List Addr} {μ : Mem} {h h' : Heap} {a : Addr} {m : Str → Option Value} (I : Inv base ρ μ h) (hm : h.Ns a m) (hb : base.get? a = none) (hs : Heap.SameBut a h h') : Inv base ρ μ h' := by
 obtain ⟨o, es, ep, ho, hd, _⟩ := hm
 have k : ∀ b x its n, h.get? b = some x → x.data = .seq its n → h'.get? b = some x := fun b x its n e d => (hs.2 b fun q => by subst q; rw [ho] at e; cases e; rw [hd] at d; cases d).trans e
 refine ⟨fun b x e => (hs.2 b fun q => by subst q; rw [hb] at e; cases e).trans (I.stays b x e), I.len, I.nodup, I.fresh, fun i c vs h1 h2 => ?_⟩
 obtain ⟨vals, ⟨n, e⟩, h3, h4⟩ := I.cells i c vs h1 h2
 exact ⟨vals, ⟨n, k _ _ _ _ e rfl⟩, h3, h4.keepSeq k⟩
theorem nob {α : Type} {a : α} {μ : Mem} {R : Prop} (e : (O.bad : O α) = .ok a μ) : R := nomatch e
theorem noe {α : Type} {a : α} {μ μ' : Mem} {R : Prop} (e : (O.exc μ' : O α) = .ok a μ) : R := nomatch e
theorem nox {α : Type} {μ : Mem} {R : Prop} (e : (O.bad : O α) = .exc μ) : R := nomatch e
theorem nox2 {α : Type} {a : α} {μ μ' : Mem} {R : Prop} (e : (O.ok a μ' : O α) = .exc μ) : R := nomatch e
section
variable {α β : Type} {a : β} {μ : Mem} {R : Prop}
theorem onlyO_inv {p : Prop} {x : O β} (h : onlyO p x = .ok a μ) (k : p → x = .ok a μ → R) : R := by
 unfold onlyO at h
 by_cases q : p
 · rw [if_pos q] at h; exact k q h
 · rw [if_neg q] at h; exact nob h
theorem optO_inv {f : α → O β} {r : Option α} (h : optO f r = .ok a μ) (k : ∀ b, r = some b → f b = .ok a μ → R) : R := by
 cases r with
 | none => exact nob h
 | some b => exact k b rfl h
theorem BX_inv {f : α → Mem → O β} {x : O α} (h : BX f x = .ok a μ) (k : ∀ b μ₁, x = .ok b μ₁ → f b μ₁ = .ok a μ → R) : R := by
 cases x with
 | ok b μ₁ => exact k b μ₁ rfl h
 | _ => exact nob h
theorem onlyO_exc {p : Prop} {x : O β} (h : onlyO p x = .exc μ) (k : x = .exc μ → R) : R := by
 unfold onlyO at h
 by_cases q : p
 · rw [if_pos q] at h; exact k h
 · rw [if_neg q] at h; exact nox h
end
theorem compL_noexc {elt cond : V → Mem → O V} {stay : Mem → Prop} {id : Nat} (vs : List V) : ∀ (μ μ' : Mem) {R : Prop}, compL elt cond stay id vs μ = .exc μ' → R := by
 induction vs with
 | nil => exact fun μ μ' R h => nox2 (show O.ok () μ = .exc μ' from h)
 | cons v vs ih =>
   intro μ μ' R h
   have h : BX (fun t μ₁ => compB (BX (fun x μ₂ => optO (fun μ₃ => onlyO (stay μ₃) (compL elt cond stay id vs μ₃)) (appendV μ₂ (.ref id) x)) (elt v μ₁)) (onlyO (stay μ₁) (compL elt cond stay id vs μ₁)) t) (cond v μ) = .exc μ' := h
   cases hc : cond v μ with
   | ok t μ₁ =>
     rw [hc] at h
     cases t with
     | bool b =>
       cases b with
       | false => exact onlyO_exc h (ih _ _)
       | true =>
         have h : BX (fun x μ₂ => optO (fun μ₃ => onlyO (stay μ₃) (compL elt cond stay id vs μ₃)) (appendV μ₂ (.ref id) x)) (elt v μ₁) = .exc μ' := h
         cases he : elt v μ₁ with
         | ok x μ₂ =>
           rw [he] at h
           have h : optO (fun μ₃ => onlyO (stay μ₃) (compL elt cond stay id vs μ₃)) (appendV μ₂ (.ref id) x) = .exc μ' := h
           cases ha : appendV μ₂ (.ref id) x with
           | none => rw [ha] at h; exact nox h
           | some μ₃ => rw [ha] at h; exact onlyO_exc h (ih _ _)
         | _ => rw [he] at h; exact nox h
     | _ => exact nox h
   | _ => rw [hc] at h; exact nox h
theorem closure_run {env : Env} {sc : Scope} {cf : Str → Addr} (h : ∀ n, (n, NameKind.free) ∈ sc.names → env.cells.lookup n = some (cf n)) :
   closureFor sc env = pure ((sc.names.filterMap fun x => if x.2 == .free then some x.1 else none).foldl (fun cs n => (n, cf n) :: cs) []) := by
 have key : ∀ (names : List (Str × NameKind)) (cs : List (Str × Addr)) (f : (Str × NameKind) → List (Str × Addr) → Sem (ForInStep (List (Str × Addr)))),
     (∀ x ∈ names, ∀ cs, f x cs = if x.2 == .free then pure (.yield ((x.1, cf x.1) :: cs)) else pure (.yield cs)) →
     forIn names cs f = pure ((names.filterMap fun x => if x.2 == .free then some x.1 else none).foldl (fun cs n => (n, cf n) :: cs) cs) := by
   intro names
   induction names with
   | nil => intro cs f _; rfl
   | cons x r ih =>
     intro cs f hf
     rw [List.forIn_cons, hf x (.head _)]
     cases hx : x.2 == NameKind.free
     · simp only [Bool.false_eq_true, if_false, pure_bind, List.filterMap_cons, hx]
       exact ih cs f fun y hy => hf y (.tail _ hy)
     · simp only [if_true, pure_bind, List.filterMap_cons, hx, List.foldl_cons]
       exact ih _ f fun y hy => hf y (.tail _ hy)
 simp only [closureFor]
 rw [key sc.names [] _ (fun x hx cs => ?_)]
 · rfl
 · obtain ⟨n, k⟩ := x
   dsimp only
   cases hk : k == NameKind.free
   · simp only [Bool.false_eq_true, if_false]
   · simp only [if_true]
     have hk' : k = NameKind.free := eq_of_beq hk
     subst hk'
     unfold cellOf
     rw [h n hx]
     rfl
theorem lookup_relabel {env : Env} : ∀ (names : List (Str × NameKind)) (x : Str),
   (names.map fun (n, k) => if (k == NameKind.free && env.scope.kind == .function && env.kindOf n == some .cell) then (n, NameKind.cell) else (n, k)).lookup x =
     (names.lookup x).map fun k => if (k == NameKind.free && env.scope.kind == .function && env.kindOf x == some .cell) then NameKind.cell else k
 | [], x => rfl
 | (n, k) :: r, x => by
   have ih := lookup_relabel (env := env) r x
   show List.lookup x ((if (k == NameKind.free && env.scope.kind == .function && env.kindOf n == some .cell) = true then (n, NameKind.cell) else (n, k)) :: _) = _
   cases hx : x == n with
   | true =>
     have := eq_of_beq hx; subst this
     by_cases hc : (k == NameKind.free && env.scope.kind == .function && env.kindOf x == some .cell) = true
     · rw [if_pos hc]; simp only [List.lookup_cons, hx, Option.map_some, hc, if_true]
     · rw [if_neg hc]; simp only [List.lookup_cons, hx, Option.map_some, hc]; rfl
   | false =>
     by_cases hc : (k == NameKind.free && env.scope.kind == .function && env.kindOf n == some .cell) = true
     · rw [if_pos hc]; simp only [List.lookup_cons, hx]; exact ih
     · rw [if_neg hc]; simp only [List.lookup_cons, hx]; exact ih
end Mine
end
section
open PySem PySem.W PyProof.Rows PySem.Calls
namespace Mine
section
variable {prog : Program} {w : World} {A : Around} {E : Value → Shared → Prop} {s : Shared} {base : Heap} {ρ : List Addr} {μ : Mem} {env : Env} {sc : Scope} {ns : List Str} {l : Loc}
theorem iter_self {k : ItKind} {I : Addr} {i : Nat} {Q : Value → Shared → Prop} (st : k.St I i s.heap) (h : Q (.ref I) s) : wpAny (model prog w) A (pyIter (.ref I)) Q E s := by
 cases k with
 | list l => exact wpAny_pyIter_listiter st h
 | ascii y t => exact wpAny_pyIter_striter_ascii st h
 | wide y t => exact wpAny_pyIter_striter_wide st h
 | range n => exact wpAny_pyIter_rangeiter st h
theorem Inv.butAny {h h' : Heap} {a : Addr} {o : Obj} (I : Inv base ρ μ h) (ho : h.get? a = some o) (n1 : ∀ its n, o.data ≠ .seq its n) (hb : base.get? a = none) (hs : ∀ b, b ≠ a → ∀ x, h.get? b = some x → h'.get? b = some x) : Inv base ρ μ h' := by
 have k : ∀ b x its n, h.get? b = some x → x.data = .seq its n → h'.get? b = some x := fun b x its n e d => hs b (fun q => by subst q; rw [ho] at e; cases e; exact n1 _ _ d) x e
 refine ⟨fun b x e => hs b (fun q => by subst q; rw [hb] at e; cases e) x (I.stays b x e), I.len, I.nodup, I.fresh, fun i c vs h1 h2 => ?_⟩
 obtain ⟨vals, ⟨n, e⟩, h3, h4⟩ := I.cells i c vs h1 h2
 exact ⟨vals, ⟨n, k _ _ _ _ e rfl⟩, h3, h4.keepSeq k⟩
theorem Frm.butFields {h h' : Heap} {a : Addr} {o : Obj} {fs : Array Value} (F : Frm ns env h ρ l) (ho : h.get? a = some o) (hd : o.data = .fields fs) (hs : ∀ b, b ≠ a → ∀ x, h.get? b = some x → h'.get? b = some x) : Frm ns env h' ρ l := by
 have k : ∀ b x its n, h.get? b = some x → x.data = .seq its n → h'.get? b = some x := fun b x its n e d => hs b (fun q => by subst q; rw [ho] at e; cases e; rw [hd] at d; cases d) x e
 have kc : ∀ {c v}, h.IsCell c v → h'.IsCell c v := fun {c v} ⟨x, e, d⟩ => ⟨x, hs c (fun q => by subst q; rw [ho] at e; cases e; rw [hd] at d; cases d) x e, d⟩
 obtain ⟨hl, ⟨m, ⟨x, es, ep, hx, hdx, r⟩, hv⟩, hk, hcl⟩ := F
 refine ⟨hl, ⟨m, ⟨x, es, ep, hs _ (fun q => by rw [q, ho] at hx; cases hx; rw [hd] at hdx; cases hdx) _ hx, hdx, r⟩, fun i n v h1 h2 => ?_⟩, fun n hn => ?_, fun p hp => let ⟨v, q⟩ := hcl p hp; ⟨v, kc q⟩⟩
 · obtain ⟨y, ry, hy⟩ := hv i n v h1 h2
   refine ⟨y, ry.keepSeq k, ?_⟩
   rcases hy with hy | ⟨q, c, h3, h4⟩
   · exact .inl hy
   · exact .inr ⟨q, c, h3, kc h4⟩
 · rcases hk n hn with q | ⟨q, c, v, h3, h4⟩
   · exact .inl q
   · exact .inr ⟨q, c, v, h3, kc h4⟩
theorem notOwn {h : Heap} {a : Addr} {o : Obj} {fs : Array Value} (F : Frm ns env h ρ l) (ho : h.get? a = some o) (hd : o.data = .fields fs) : a ∉ own env := fun hm => by
 rcases List.mem_cons.mp hm with q | q
 · obtain ⟨m, ⟨x, es, ep, hx, hdx, _⟩, _⟩ := F.has
   rw [← q] at hx; rw [ho] at hx; cases hx; rw [hd] at hdx; cases hdx
 · obtain ⟨p, hp, rfl⟩ := List.mem_map.mp q
   obtain ⟨v, x, hx, hdx⟩ := F.cl p hp
   rw [ho] at hx; cases hx; rw [hd] at hdx; cases hdx
theorem notIn {h : Heap} {a : Addr} {o : Obj} {fs : Array Value} (I : Inv base ρ μ h) (ho : h.get? a = some o) (hd : o.data = .fields fs) : a ∉ ρ := fun q => by
 obtain ⟨vals, n, e⟩ := I.at q
 rw [ho] at e; cases e; cases hd
end
structure CompOK (base : Heap) (sc' : Scope) (t : Str) (caps : List Str) (env : Env) (cl : List (Str × Addr)) : Prop where
 kind : sc'.kind = .function
 loc : sc'.names.lookup t = some .local
 cell : ∀ y ∈ sc'.names, y.2 ≠ .cell
 names : ∀ y ∈ sc'.names, y.2 = .local → sc'.names.lookup y.1 = some .local
 clos : closureFor sc' env = pure cl
 len : caps.length ≤ 1
 free : ∀ n ∈ caps, sc'.names.lookup n = some .free
 notT : t ∉ caps
 look : ∀ n ∈ caps, ∃ c, cl.lookup n = some c ∧ env.cells.lookup n = some c
 back : ∀ p ∈ cl, ∃ n ∈ caps, p.1 = n ∧ env.cells.lookup n = some p.2
theorem compOK_of {base : Heap} {sc sc' : Scope} {ns : List Str} {t : Str} {caps : List Str} {env : Env} {h : Heap} {ρ : List Addr} {l : Loc} (K : EnvOK base sc ns env) (F : Frm ns env h ρ l)
   (hc : compScope sc' t caps = true) (hn : ∀ n ∈ caps, n ∈ ns) (hcell : ∀ n ∈ caps, sc.names.lookup n = some .cell) : ∃ cl, CompOK base sc' t caps env cl := by
 unfold compScope at hc
 simp only [Bool.and_eq_true, decide_eq_true_eq, beq_iff_eq, List.all_eq_true, Bool.not_eq_true', bne_iff_ne, ne_eq, Bool.or_eq_true] at hc
 obtain ⟨⟨⟨⟨⟨⟨⟨⟨h1, h2⟩, h3⟩, h4⟩, h5⟩, h6⟩, h7⟩, h8⟩, h9⟩ := hc
 have hk : ∀ n ∈ caps, ∃ c, env.cells.lookup n = some c := fun n hm => by
   have q := K.ce n (hcell n hm)
   rcases F.kinds n (hn n hm) with q' | ⟨_, c, _, q', _⟩
   · rw [q] at q'; cases q'
   · exact ⟨c, q'⟩
 classical
 let cf : Str → Addr := fun n => (env.cells.lookup n).getD 0
 have hcf : ∀ n ∈ caps, env.cells.lookup n = some (cf n) := fun n hm => by obtain ⟨c, q⟩ := hk n hm; simp [cf, q]
 have hfree : ∀ n, (n, NameKind.free) ∈ sc'.names → n ∈ caps := fun n hm => by
   rw [← h5]; exact List.mem_filterMap.mpr ⟨_, hm, by simp⟩
 have hcl := closure_run (env := env) (sc := sc') (cf := cf) fun n hm => hcf n (hfree n hm)
 simp only [beq_iff_eq] at hcl
 rw [h5] at hcl
 refine ⟨_, h1, h2, fun y hy => h3 y hy, fun y hy q => ?_, hcl, h6, fun n hm => ?_, by simpa using h8, ?_, ?_⟩
 · rcases h4 y hy with q' | q'
   · exact absurd q q'
   · exact q'
 · exact h7 n hm
 · match caps, h6, hcf with
   | [], _, _ => intro n hm; cases hm
   | [n0], _, hcf => intro n hm; simp at hm; subst hm; exact ⟨cf n, by simp, hcf n (by simp)⟩
 · match caps, h6, hcf with
   | [], _, _ => intro p hp; simp at hp
   | [n0], _, hcf => intro p hp; simp at hp; subst hp; exact ⟨n0, by simp, rfl, hcf n0 (by simp)⟩
end Mine
end
section
open PySem PySem.W PyProof.Rows PySem.Calls
namespace Mine
section
variable {prog : Program} {w : World} {base : Heap} {mg mb : Str → Option Value} {C : Addr} {d : Nat} {Φ : Nat → List V → Mem → O V}
theorem comp_env {base : Heap} {sc sc' : Scope} {ns : List Str} {t : Str} {caps : List Str} {env : Env} {cl : List (Str × Addr)} {c0 : Addr} (K : EnvOK base sc ns env) (X : CompOK base sc' t caps env cl) (hC : base.get? c0 = none) :
   EnvOK base sc' (t :: caps) (compEnvC sc' cl c0 env) := by
 have lk : ∀ n, (compEnvC sc' cl c0 env).kindOf n = (sc'.names.lookup n).map fun k => if (k == NameKind.free && env.scope.kind == .function && env.kindOf n == some .cell) then NameKind.cell else k := fun n => lookup_relabel sc'.names n
 refine ⟨X.kind, K.glob, K.blt, fun n hn => ?_, fun n hn => absurd rfl (X.cell _ (mem_of_lookup hn)), ?_, hC, fun p hp => ?_, fun n n' c h1 h2 => ?_, K.frame, ?_⟩
 · rw [lk, hn]; rfl
 · have := X.notT
   have hl := X.len
   match caps, this, hl with
   | [], _, _ => simp
   | [a], h, _ => simp at h; simp [h]
 · obtain ⟨n, hn, rfl, h⟩ := X.back p hp
   exact K.newC _ (show (p.1, p.2) ∈ env.cells from mem_of_lookup h)
 · have inCl : ∀ {n c}, cl.lookup n = some c → n ∈ caps := fun {n c} h => by
     obtain ⟨n', hn', q, _⟩ := X.back _ (mem_of_lookup h)
     cases q; exact hn'
   have m1 := inCl h1
   have m2 := inCl h2
   have hl := X.len
   match caps, hl, m1, m2 with
   | [a], _, m1, m2 => simp at m1 m2; rw [m1, m2]
 · unfold interactive compEnvC relabel
   rw [show (({ sc' with names := _ } : Scope)).kind = sc'.kind from rfl, X.kind]; rfl
theorem caps_at {ns : List Str} {n : Str} {c : Nat} {cs : List Nat} {i : Nat} (hl : (caps ns cs).length = cs.length) (h1 : (caps ns cs)[i]? = some n) (h2 : cs[i]? = some c) : ns[c]? = some n := by
 induction cs generalizing i with
 | nil => cases h2
 | cons a r ih =>
   have hle : (caps ns r).length ≤ r.length := List.length_filterMap_le ..
   cases ha : ns[a]? with
   | none =>
     rw [show caps ns (a :: r) = caps ns r from List.filterMap_cons_none ha] at hl
     exact absurd hle (by rw [hl]; exact Nat.not_succ_le_self _)
   | some m =>
     rw [show caps ns (a :: r) = m :: caps ns r from List.filterMap_cons_some ha] at hl h1
     cases i with
     | zero => cases h1; cases h2; exact ha
     | succ i => exact ih (Nat.succ.inj hl) h1 h2
theorem comp_frm {base : Heap} {sc sc' : Scope} {ns : List Str} {t : Str} {cs : List Nat} {env : Env} {cl : List (Str × Addr)} {c0 : Addr} {h : Heap} {ρ : List Addr} {l : Loc} (K : EnvOK base sc ns env) (F : Frm ns env h ρ l)
   (X : CompOK base sc' t (caps ns cs) env cl) (hl : (caps ns cs).length = cs.length) (hcell : ∀ n ∈ (caps ns cs), sc.names.lookup n = some .cell)
   (hns : h.Ns c0 fun _ => none) : Frm (t :: caps ns cs) (compEnvC sc' cl c0 env) h ρ (none :: cs.map fun c => (l[c]?).join) := by
 have lk : ∀ n, (compEnvC sc' cl c0 env).kindOf n = (sc'.names.lookup n).map fun k => if (k == NameKind.free && env.scope.kind == .function && env.kindOf n == some .cell) then NameKind.cell else k := fun n => lookup_relabel sc'.names n
 have hcaps : ∀ n ∈ (caps ns cs), ((compEnvC sc' cl c0 env).kindOf n = some .cell ∨ (compEnvC sc' cl c0 env).kindOf n = some .free) := fun n hn => by
   rw [lk, X.free n hn]
   simp only [Option.map_some]
   split <;> simp
 refine ⟨by simp [hl], ⟨_, hns, fun i n v h1 h2 => ?_⟩, fun n hn => ?_, fun p hp => ?_⟩
 rotate_left 2
 · obtain ⟨n, hn, rfl, h⟩ := X.back p hp
   exact F.cl _ (mem_of_lookup h)
 · cases i with
   | zero => simp at h2
   | succ i =>
     simp only [List.getElem?_cons_succ] at h1 h2
     have hn := List.mem_of_getElem? h1
     rw [List.getElem?_map] at h2
     obtain ⟨c, hc, h2⟩ := Option.map_eq_some_iff.mp h2
     have hl2 : l[c]? = some (some v) := Option.join_eq_some_iff.mp h2
     have hnc : ns[c]? = some n := caps_at hl h1 hc
     obtain ⟨m, _, hm⟩ := F.has
     obtain ⟨x, rx, hx⟩ := hm c n v hnc hl2
     obtain ⟨ca, q1, q2⟩ := X.look n hn
     rcases hx with ⟨q, _⟩ | ⟨_, ca', q3, q4⟩
     · rw [K.ce n (hcell n hn)] at q; cases q
     · rw [q2] at q3; cases q3
       exact ⟨x, rx, .inr ⟨hcaps n hn, ca, q1, q4⟩⟩
 · rcases List.mem_cons.mp hn with rfl | hn
   · refine .inl ?_; rw [lk, X.loc]; rfl
   · obtain ⟨ca, q1, q2⟩ := X.look n hn
     have hn' : n ∈ ns := by obtain ⟨c, _, q⟩ := List.mem_filterMap.mp hn; exact List.mem_of_getElem? q
     rcases F.kinds n hn' with q | ⟨_, ca', v, q3, q4⟩
     · rw [K.ce n (hcell n hn)] at q; cases q
     · rw [q2] at q3; cases q3
       exact .inr ⟨hcaps n hn, ca, v, q1, q4⟩
end
end Mine
end
section
open PySem PySem.W PyProof.Rows PySem.Calls
namespace Mine
theorem compL_cons {elt cond : V → Mem → O V} {stay : Mem → Prop} {id : Nat} {v : V} {vs : List V} {μ μf : Mem} {R : Prop} (h : compL elt cond stay id (v :: vs) μ = .ok () μf)
   (k0 : ∀ μ₁, cond v μ = .ok (.bool false) μ₁ → stay μ₁ → compL elt cond stay id vs μ₁ = .ok () μf → R)
   (k1 : ∀ μ₁ x μ₂ μ₃, cond v μ = .ok (.bool true) μ₁ → elt v μ₁ = .ok x μ₂ → appendV μ₂ (.ref id) x = some μ₃ → stay μ₃ → compL elt cond stay id vs μ₃ = .ok () μf → R) : R := by
 have h : BX (fun t μ₁ => compB (BX (fun x μ₂ => optO (fun μ₃ => onlyO (stay μ₃) (compL elt cond stay id vs μ₃)) (appendV μ₂ (.ref id) x)) (elt v μ₁)) (onlyO (stay μ₁) (compL elt cond stay id vs μ₁)) t) (cond v μ) = .ok () μf := h
 refine BX_inv h fun t μ₁ hc h => ?_
 cases t with
 | bool b =>
   cases b with
   | false => exact onlyO_inv h fun q h => k0 μ₁ hc q h
   | true =>
     have h : BX (fun x μ₂ => optO (fun μ₃ => onlyO (stay μ₃) (compL elt cond stay id vs μ₃)) (appendV μ₂ (.ref id) x)) (elt v μ₁) = .ok () μf := h
     exact BX_inv h fun x μ₂ he h => optO_inv h fun μ₃ ha h => onlyO_inv h fun q h => k1 μ₁ x μ₂ μ₃ hc he ha q h
 | _ => exact nob h
theorem tests_ok {κ : Kn} {cond : E} {ifs : List Expr} {X : Ct} {l : Loc} {σ : Sg} {μ₁ : Mem} {Q : Bool → Shared → Prop} {E' : QV} {b : Bool}
   (ht : trIfs cond.isYes (trE X.sc X.ns cond) ifs = true) (hcond : ST κ cond) (c : Cx κ X l σ) (hv : xE κ.Φ cond l σ.μ = .ok (.bool b) μ₁)
   (hQ : ∀ σ', To σ σ' → Inv κ.base σ'.ρ σ'.μ σ'.s.heap → σ'.μ = μ₁ → Q b σ'.s) :
   wpAny κ.M X.A (forIn ifs true fun c r => if r = true then do let ok ← isTrue c X.env (eval c X.env); pure (ForInStep.yield ok) else pure (ForInStep.yield r)) Q E' σ.s := by
 cases ifs with
 | nil =>
   rw [List.forIn_nil]
   have q : b = true ∧ μ₁ = σ.μ := by
     cases cond with
     | bool bb =>
       cases bb with
       | false => exact ff ht
       | true => cases (show O.ok (V.bool true) σ.μ = .ok (.bool b) μ₁ from hv); exact ⟨rfl, rfl⟩
     | _ => exact ff ht
   obtain ⟨rfl, rfl⟩ := q
   exact wpAny_pure (hQ σ (To.refl _) c.I rfl)
 | cons x r =>
   refine l0_inv (P := fun r => wpAny κ.M X.A (forIn (x :: r) true _) Q E' σ.s) (show l0 r (trE X.sc X.ns cond x) = true from ht) fun ht => ?_
   rw [List.forIn_cons]
   refine wpAny_bind (wpAny_bind (hcond x X l σ _ E' ht c ?_))
   rw [hv]
   intro bb ρ' s' st I' rb sm
   cases (rb : b = bb)
   refine wpAny_pure ?_
   show wpAny _ X.A (forIn [] b _) Q E' s'
   rw [List.forIn_nil]
   exact wpAny_pure (hQ ⟨ρ', μ₁, s'⟩ ⟨st, sm⟩ I' rfl)
structure Cp where
 κ : Kn
 X : Ct
 l : Loc
 σ : Sg
 cs : List Nat
 elt : E
 cond : E
 e0 : Expr
 ifs : List Expr
 t : Str
 sc2 : Scope
 cl : List (Str × Addr)
 v : V
 vs : List V
 μf : Mem
 I : Addr
 D : Addr
 Ca : Addr
 k : ItKind
 Q : QV
 E' : QV
noncomputable def Cp.env (c : Cp) : Env := compEnvC c.sc2 c.cl c.Ca c.X.env
noncomputable def Cp.ns (c : Cp) : List Str := c.t :: caps c.X.ns c.cs
noncomputable def Cp.X2 (c : Cp) : Ct := ⟨c.X.A, c.X.outer, c.env, c.sc2, c.ns⟩
noncomputable def Cp.loc (c : Cp) (u : Option V) : Loc := u :: c.cs.map fun i => (c.l[i]?).join
noncomputable def Cp.run (c : Cp) (vs : List V) (μ : Mem) : O Unit := compL (fun x μ' => xE c.κ.Φ c.elt (c.loc (some x)) μ') (fun x μ' => xE c.κ.Φ c.cond (c.loc (some x)) μ') (stays c.v c.vs) c.σ.μ.length vs μ
structure Cp.OK (c : Cp) : Prop where
 cx : Cx c.κ c.X c.l c.σ
 ck : EnvOK c.κ.base c.sc2 c.ns c.env
 lt : c.env.kindOf c.t = some .local
 helt : SE c.κ c.elt
 hcond : ST c.κ c.cond
 h6 : trE c.sc2 c.ns c.elt c.e0 = true
 h7 : trIfs c.cond.isYes (trE c.sc2 c.ns c.cond) c.ifs = true
 newI : c.σ.s.heap.get? c.I = none
 newC : c.σ.s.heap.get? c.Ca = none
 items : ∀ σ', To c.σ σ' → Inv c.κ.base σ'.ρ σ'.μ σ'.s.heap → stays c.v c.vs σ'.μ → c.k.Items σ'.ρ σ'.s.heap c.vs
 fin : PostE c.κ c.X c.σ (.ok (.ref c.σ.μ.length) c.μf) c.Q c.E'
structure Cp.At (c : Cp) (j : Nat) (u : Option V) (σ' : Sg) : Prop where
 t : To c.σ σ'
 I : Inv c.κ.base σ'.ρ σ'.μ σ'.s.heap
 it : c.k.St c.I j σ'.s.heap
 F : Frm c.ns c.env σ'.s.heap σ'.ρ (c.loc u)
 hD : σ'.ρ[c.σ.μ.length]? = some c.D
 sty : stays c.v c.vs σ'.μ
section
variable {c : Cp} {j : Nat} {u : Option V} {y : V} {σ' σ₂ : Sg}
theorem Cp.bn (o : c.OK) {a : Addr} (n : c.σ.s.heap.get? a = none) : c.κ.base.get? a = none := by
 cases e : c.κ.base.get? a with
 | none => rfl
 | some x => have := o.cx.I.stays _ _ e; rw [n] at this; cases this
theorem Cp.At.cx (o : c.OK) (a : c.At j u σ') : Cx c.κ c.X2 (c.loc u) σ' := ⟨o.cx.T, o.ck, a.F, o.cx.a.step a.t.st, a.I⟩
theorem Cp.At.step (a : c.At j u σ') (t : To σ' σ₂) (I : Inv c.κ.base σ₂.ρ σ₂.μ σ₂.s.heap) (sty : stays c.v c.vs σ₂.μ) : c.At j u σ₂ :=
 let ⟨_, _, ho, hd⟩ := a.it.fields
 ⟨a.t.trans t, I, a.it.at_ fun o' e => t.st.ex.keep c.I o' e (fun q => nomatch q) (notIn a.I ho hd), a.F.step (fun _ ha => a.I.at ha) t.st, t.st.grows.get a.hD, sty⟩
theorem comp_done (o : c.OK) (a : c.At j u σ') (hv : c.vs[j]? = none) (hr : c.run (c.vs.drop j) σ'.μ = .ok () c.μf) {QO : Option Value → Shared → Prop} {E : QV}
   (kk : ∀ s, (∃ m, s.heap.Ns c.Ca m ∧ ∀ h', Heap.SameBut c.Ca s.heap h' → c.Q (.ref c.D) { s with heap := h' }) → QO none s) : wpAny c.κ.M c.X.A (pyNext (.ref c.I)) QO E σ'.s := by
 obtain ⟨oI, fsI, hoI, hdI⟩ := a.it.fields
 refine next_done o.cx.a.handled a.it (o.items σ' a.t a.I a.sty) hv fun h' hext => kk _ ?_
 rw [List.drop_of_length_le (List.getElem?_eq_none_iff.mp hv)] at hr
 have hμ : σ'.μ = c.μf := (O.ok.inj (show O.ok () σ'.μ = .ok () c.μf from hr)).2
 obtain ⟨m, hm, _⟩ := a.F.has
 have hm' : h'.Ns c.Ca m := by
   obtain ⟨x, es, ep, hx, hdx, r⟩ := hm
   exact ⟨x, es, ep, hext _ _ (fun q => by rw [show c.env.locals = c.I from q, hoI] at hx; cases hx; rw [hdI] at hdx; cases hdx) hx, hdx, r⟩
 refine ⟨m, hm', fun h'' hs'' => ?_⟩
 have Iy : Inv c.κ.base σ'.ρ σ'.μ h'' := (a.I.butAny hoI (notSeq hdI).1 (Cp.bn o o.newI) fun b hb x e => hext b x hb e).butDict hm' (Cp.bn o o.newC) hs''
 rw [hμ] at Iy
 exact o.fin (.ref c.D) σ'.ρ { σ'.s with heap := h'' } ((a.t.st.butNew o.newI fun b hb x e => hext b x hb e).butNew o.newC fun b hb x e => (hs''.2 b hb).trans e) Iy (.ref a.hD) ⟨a.t.sm.gens, a.t.sm.os⟩
theorem comp_next (o : c.OK) (a : c.At j u σ') (hv : c.vs[j]? = some y) {QO : Option Value → Shared → Prop} {E : QV} (kk : ∀ x σ₂, c.At (j + 1) u σ₂ → σ₂.μ = σ'.μ → Is σ₂ y x → QO (some x) σ₂.s) : wpAny c.κ.M c.X.A (pyNext (.ref c.I)) QO E σ'.s := by
 obtain ⟨oI, fsI, hoI, hdI⟩ := a.it.fields
 refine next_item a.it (o.items σ' a.t a.I a.sty) hv fun x h' tk rx hS hsb => ?_
 have hs : ∀ b, b ≠ c.I → ∀ x, σ'.s.heap.get? b = some x → h'.get? b = some x := fun b hb x e => (hsb.2 b hb).trans e
 exact kk x ⟨σ'.ρ, σ'.μ, _⟩ ⟨⟨a.t.st.butNew o.newI hs, a.t.sm.gens, a.t.sm.os⟩, a.I.butAny hoI (notSeq hdI).1 (Cp.bn o o.newI) hs, hS, a.F.butFields hoI hdI hs, a.hD, a.sty⟩ rfl rx
theorem comp_store (o : c.OK) (a : c.At j u σ') {x : Value} (rx : Is σ' y x) {px : Pos} {QO : Unit → Shared → Prop} {E : QV} (kk : ∀ σ₂, c.At j (some y) σ₂ → σ₂.μ = σ'.μ → QO () σ₂.s) : wpAny c.κ.M c.X.A (assign (.Name c.t px) c.env x) QO E σ'.s := by
 obtain ⟨oI, fsI, hoI, hdI⟩ := a.it.fields
 refine wpAny_assign_Name (store_local o.ck a.F a.I (i := 0) rfl o.lt rx fun s₄ st₄ I₄ F₄ sm₄ => ?_)
 refine kk ⟨σ'.ρ, σ'.μ, s₄⟩ ⟨⟨((a.t.st.mono fun a q => nomatch q).trans st₄).dropNew o.newC, a.t.sm.trans sm₄⟩, I₄, a.it.at_ fun o' e => st₄.ex.keep c.I o' e (fun q => ?_) (notIn a.I hoI hdI), F₄, a.hD, a.sty⟩ rfl
 obtain ⟨m, ⟨x, es, ep, hx, hdx, _⟩, _⟩ := a.F.has
 rw [← List.mem_singleton.mp q, hoI] at hx; cases hx; rw [hdI] at hdx; cases hdx
theorem comp_loop (o : c.OK) {px : Pos} {i0 : Expr} {p0 : Pos} (a : c.At 0 u σ') (hr : c.run c.vs σ'.μ = .ok () c.μf) :
   codeAny c.κ.M c.X.A (.compLoop (.ListComp c.e0 [⟨.Name c.t px, i0, c.ifs, 0⟩] c.sc2 p0) 0 (.ref c.I) (.ref c.D) c.env) (compPost c.κ.M c.X.A c.E' none c.Q (.ref c.D) c.Ca) σ'.s := by
 refine codeAny_compLoop_tests (fun n s' => ∃ j u ρ μ, c.At j u ⟨ρ, μ, s'⟩ ∧ c.run (c.vs.drop j) μ = .ok () c.μf ∧ n = c.vs.length - j) ?_ c.vs.length ⟨0, u, σ'.ρ, σ'.μ, a, hr, rfl⟩
 rintro n s' ⟨j, u, ρ, μ, a, hr, rfl⟩
 cases hv : c.vs[j]? with
 | none => exact comp_done o a hv hr fun s h => h
 | some y =>
   have hj := List.getElem?_eq_some_iff.mp hv
   have dec : c.vs.length - (j + 1) < c.vs.length - j := Nat.sub_succ_lt_self _ _ hj.1
   rw [List.drop_eq_getElem_cons hj.1, hj.2] at hr
   refine comp_next o a hv fun x σ₁ a₁ e₁ rx => comp_store o a₁ rx fun σ₂ a₂ e₂ => ?_
   rw [show μ = σ₂.μ from (e₂.trans e₁).symm] at hr
   refine compL_cons hr (fun μa e1 e2 e3 => ?_) fun μa z μb μc e1 e2 e3 e4 e5 => ?_
   · refine tests_ok (X := c.X2) o.h7 o.hcond (a₂.cx o) e1 fun σ₃ t₃ I₃ q => ?_
     subst q
     exact ⟨_, dec, j + 1, _, σ₃.ρ, σ₃.μ, a₂.step t₃ I₃ e2, e3, rfl⟩
   · refine tests_ok (X := c.X2) o.h7 o.hcond (a₂.cx o) e1 fun σ₃ t₃ I₃ q => ?_
     subst q
     refine o.helt c.e0 c.X2 _ σ₃ _ _ o.h6 ((a₂.cx o).step t₃ I₃) ?_
     rw [show xE c.κ.Φ c.elt (c.loc (some y)) σ₃.μ = .ok z μb from e2]
     intro zx ρ₆ s₆ st₆ I₆ r₆ sm₆
     refine append_ok I₆ (.ref ((t₃.st.trans st₆).grows.get a₂.hD)) r₆ e3 fun s₇ st₇ I₇ sm₇ => ?_
     exact ⟨_, dec, j + 1, _, ρ₆, μc, a₂.step (σ₂ := ⟨ρ₆, μc, s₇⟩) ⟨(t₃.st.trans st₆).trans st₇, (t₃.sm.trans sm₆).trans sm₇⟩ I₇ e4, e5, rfl⟩
end
theorem stays_new {v : V} {vs : List V} {μ : Mem} (h : itemsOf μ v = some vs) (x : List V) : stays v vs (μ ++ [x]) := by
 cases v with
 | ref id => exact (List.getElem?_append_left (List.getElem?_eq_some_iff.mp (show μ[id]? = some vs from h)).1).trans h
 | _ => trivial
theorem stays_now {v : V} {vs : List V} {μ : Mem} (h : itemsOf μ v = some vs) : stays v vs μ := by
 cases v with
 | ref id => exact h
 | _ => trivial
theorem se_comp {κ : Kn} {cs : List Nat} {elt it cond : E} (hit : SE κ it) (helt : SE κ elt) (hcond : ST κ cond) : SE κ (.comp cs elt it cond) := fun x X l σ₀ Q E' ht c₀ h => by
 refine tr_comp ht fun e0 t px i0 ifs sc2 p0 h1 h2 h3 h4 h5 h6 h7 => ?_
 have hcell : ∀ n ∈ caps X.ns cs, X.sc.names.lookup n = some .cell := fun n hn => eq_of_beq (List.all_eq_true.mp h3 n hn)
 obtain ⟨cl, Y⟩ := compOK_of c₀.K c₀.F h1 (fun n hn => by obtain ⟨c, _, q⟩ := List.mem_filterMap.mp hn; exact List.mem_of_getElem? q) hcell
 rw [eval_ListComp]
 refine wpAny_comprehension_free (use := none) rfl (fun x => by cases i0 <;> first | rfl | exact ff h5) Y.clos Y.kind Y.names (hit i0 X l σ₀ _ E' h4 c₀ (PostE.bind (f := compK cs (xE κ.Φ elt) (xE κ.Φ cond) l) h c₀ fun v xv σ a r h => ?_))
 unfold compK at h
 cases hvs : itemsOf σ.μ v with
 | none => rw [hvs] at h; exact h.elim
 | some vs =>
 rw [hvs] at h
 have h : PostE κ X σ (B1 (fun _ μ₂ => .ok (.ref σ.μ.length) μ₂) (compL (fun x μ' => xE κ.Φ elt (some x :: cs.map fun c => (l[c]?).join) μ') (fun x μ' => xE κ.Φ cond (some x :: cs.map fun c => (l[c]?).join) μ') (stays v vs) σ.μ.length vs (σ.μ ++ [[]]))) Q E' := h
 generalize hR : compL (fun x μ' => xE κ.Φ elt (some x :: cs.map fun c => (l[c]?).join) μ') (fun x μ' => xE κ.Φ cond (some x :: cs.map fun c => (l[c]?).join) μ') (stays v vs) σ.μ.length vs (σ.μ ++ [[]]) = R at h
 cases R with
 | bad => exact h.elim
 | exc μ' => exact compL_noexc _ _ _ hR
 | ok u μf =>
 refine iter_start a.c.I r hvs fun o k hst n1 n2 hitems => wpAny_newList ?_ (Nat.zero_le _)
 refine wpAny_newFunctionEnv Y.cell (fun y hy => nomatch hy) (fun h₃ hns hsb => ?_) Y.kind
 dsimp only at hns hsb ⊢
 have k1 : ∀ b o', σ.s.heap.get? b = some o' → (σ.s.heap.push o).get? b = some o' := push_keeps o
 obtain ⟨Ib, stb⟩ := (a.c.I.keeps k1).alloc (vs := []) (vals := []) .nil (Nat.zero_le _)
 generalize hH2 : (σ.s.heap.push o).push { cls := .type "list", data := .seq ([] : List Value).toArray } = H2 at *
 have k2 : ∀ b o', (σ.s.heap.push o).get? b = some o' → H2.get? b = some o' := hH2 ▸ push_keeps _
 have newC : H2.get? H2.objs.size = none := Heap.get?_none_of_le (Nat.le_refl _)
 have k3 : ∀ b o', H2.get? b = some o' → h₃.get? b = some o' := fun b o' e => hsb.extBut b o' (fun q => by rw [q, newC] at e; cases e) (Heap.get?_push_of_some _ e)
 have newC1 : σ.s.heap.get? H2.objs.size = none := by
   cases e : σ.s.heap.get? H2.objs.size with
   | none => rfl
   | some x => rw [k2 _ _ (k1 _ _ e)] at newC; cases newC
 have st0 : Step [] σ.ρ σ.s.heap (σ.ρ ++ [(σ.s.heap.push o).objs.size]) h₃ := ((Step.of_keeps k1).trans stb).trans (.of_keeps k3)
 have t0 : To σ ⟨σ.ρ ++ [(σ.s.heap.push o).objs.size], σ.μ ++ [[]], { σ.s with heap := h₃, toks := σ.s.toks + ([] : List (Str × Value)).length }⟩ := ⟨st0, rfl, rfl⟩
 have Ic := Ib.keeps k3
 have c₃ := a.c.step t0 Ic
 have hbC : κ.base.get? H2.objs.size = none := by
   cases e : κ.base.get? H2.objs.size with
   | none => rfl
   | some x => have := a.c.I.stays _ _ e; rw [newC1] at this; cases this
 let c : Cp := ⟨κ, X, l, σ, cs, elt, cond, e0, ifs, t, sc2, cl, v, vs, μf, σ.s.heap.objs.size, (σ.s.heap.push o).objs.size, H2.objs.size, k, Q, E'⟩
 have ok : c.OK := ⟨a.c, comp_env c₀.K Y hbC, (lookup_relabel sc2.names t).trans (by rw [Y.loc]; rfl), helt, hcond, h6, h7, Heap.get?_none_of_le (Nat.le_refl _), newC1,
   fun σ' t' I' s' => hitems σ'.ρ σ'.μ σ'.s.heap I' (r.step t'.st) s', h⟩
 have at0 : c.At 0 none ⟨σ.ρ ++ [(σ.s.heap.push o).objs.size], σ.μ ++ [[]], { σ.s with heap := h₃, toks := σ.s.toks + ([] : List (Str × Value)).length }⟩ :=
   ⟨t0, Ic, hst.at_ fun o' e => k3 _ _ (k2 _ _ e), comp_frm c₀.K c₃.F Y h2 hcell hns, by
     show (σ.ρ ++ [_])[σ.μ.length]? = _
     rw [← a.c.I.len, List.getElem?_append_right (Nat.le_refl _), Nat.sub_self]; rfl, stays_new hvs _⟩
 have loop := comp_loop ok (px := px) (i0 := i0) (p0 := p0) at0 hR
 exact codeAny_compStart_list loop (iter_self at0.it loop)
end Mine
end
section
open PySem PySem.W PyProof.Rows PySem.Calls
namespace Mine
section
variable {κ : Kn} {X : Ct} {l : Loc} {σ σ₁ : Sg} {Q Q' E' : QV} {QB : Bool → Shared → Prop}
noncomputable def Plain (x : Expr) : Prop := ∀ env whole, PySem.isTrue x env whole = (do let v ← whole; standAt x.pos; holding [v] (truthy v))
theorem st_of {e : E} (hx : ∀ (x : Expr) (sc : Scope) (ns : List Str), trE sc ns e x = true → Plain x) (he : SE κ e) : ST κ e := fun x X l σ Q E' ht c h => by
 refine isTrue_plain (he x X l σ _ E' ht c (PostT.bind (f := toB) h c fun v y σ₁ a r₁ h₁ => ?_)) (hx x X.sc X.ns ht X.env _)
 cases v with
 | bool b => exact r₁.boolI (wpAny_truthy_bool (PostT.plain h₁ a.c.I))
 | _ => exact h₁.elim
theorem st_not {a : E} (ha : ST κ a) : ST κ (.not a) := fun x X l σ Q E' ht c h => by
 refine tr_not ht fun y p h1 => isTrue_not (ha y X l σ _ E' h1 c ?_)
 have e : tb (xE κ.Φ (.not a) l σ.μ) = B2 (fun b μ => .ok (!b) μ) (tb (xE κ.Φ a l σ.μ)) := by
   rw [e_not]
   cases xE κ.Φ a l σ.μ with
   | ok v μ₁ => cases v <;> rfl
   | _ => rfl
 rw [e] at h
 exact Post.bind h fun b μ₁ y ρ₁ s₁ st I₁ r₁ sm h₁ => by cases (r₁ : b = y); exact PostT.plain (σ := ⟨ρ₁, μ₁, s₁⟩) h₁ I₁
theorem st_cmp {op : Cop} {a b : E} (ha : SE κ a) (hb : SE κ b) : ST κ (.cmp op a b) := fun x X l σ Q E' ht c h => by
 rw [e_cmp, tb_bind] at h
 exact tr_cmp ht fun l0 r0 p h2 h3 h4 => wpAny_isTrue_Compare1 (ha l0 X l σ _ E' h2 c (PostT.bind h c fun v x σ₁ a₁ r₁ h₁ => by
   have h₁ : PostT κ X σ₁ (tb (B1 (cmpK2 op v) (xE κ.Φ b l σ₁.μ))) Q E' := h₁
   rw [tb_bind1] at h₁
   exact hb r0 X l σ₁ _ E' h3 a₁.c (PostT.bind1 h₁ a₁.c fun v' y σ₂ a₂ r₂ h₂ => PostT.lift (o := cmpV σ₂.μ op v v') h₂ a₂.c.I fun r hr g =>
     cmp_ok a₂.c.I a₂.c.room (r₁.step a₂.t.st) r₂ hr (wpAny_truthy_bool g)))) (noMarks h4)
theorem PostT.asE {r : O V} (h : PostT κ X σ (tb r) QB E') {μ : Mem} (e : ∀ v μ', r = .ok v μ' → ∃ b, v = .bool b) : PostE κ X σ r (fun x s => ∃ b, x = .bool b ∧ QB b s) E' := by
 cases r with
 | ok v μ₁ =>
   obtain ⟨b, rfl⟩ := e v μ₁ rfl
   intro x ρ' s' st I r sm
   exact r.boolI ⟨b, rfl, h b ρ' s' st I rfl sm⟩
 | exc μ₁ => exact h
 | bad => exact h
theorem lift_bool {o : Option Bool} {μ : Mem} {v : V} {μ' : Mem} (h : O.lift (o.map V.bool) μ = .ok v μ') : ∃ b, v = .bool b := by
 cases o with
 | none => exact nob h
 | some b => exact ⟨b, (O.ok.inj (show O.ok (V.bool b) μ = .ok v μ' from h)).1.symm⟩
theorem st_inEsc {a : E} (ha : SE κ a) : ST κ (.inEsc a) := fun x X l σ Q E' ht c h => by
 have h : PostE κ X σ (xE κ.Φ (.inEsc a) l σ.μ) _ E' := PostT.asE (μ := σ.μ) h fun v μ' e => by
   rw [e_inEsc] at e
   cases hx : xE κ.Φ a l σ.μ with
   | ok u μ₁ => rw [hx] at e; exact lift_bool (o := isEsc u) e
   | exc => rw [hx] at e; exact noe e
   | bad => rw [hx] at e; exact nob e
 exact tr_inEsc ht fun l0 q p h2 h3 => wpAny_isTrue_Compare1 (inEsc_run (E'' := E') ha h2 h3 c h fun b s q => by obtain ⟨b', e, q⟩ := q; cases e; exact wpAny_truthy_bool q) rfl
theorem chain_bool {e1 e2 e3 : E} {Φ : OK} {μ : Mem} {v : V} {μ' : Mem} (e : xE Φ (.chain e1 e2 e3) l μ = .ok v μ') : ∃ b, v = .bool b := by
 rw [e_chain] at e
 cases h1 : xE Φ e1 l μ with
 | ok x μ₁ =>
   rw [h1] at e
   have e : B1 (chK2 (xE Φ e3) l x) (xE Φ e2 l μ₁) = .ok v μ' := e
   cases h2 : xE Φ e2 l μ₁ with
   | ok y μ₂ =>
     rw [h2] at e
     have e : chainK (B0 (chK3 y) (xE Φ e3 l μ₂)) (.ok (.bool false) μ₂) (leV x y) = .ok v μ' := e
     cases hl : leV x y with
     | none => rw [hl] at e; exact nob e
     | some b =>
       rw [hl] at e
       cases b with
       | false => exact ⟨false, (O.ok.inj (show O.ok (V.bool false) μ₂ = .ok v μ' from e)).1.symm⟩
       | true =>
         have e : B0 (chK3 y) (xE Φ e3 l μ₂) = .ok v μ' := e
         cases h3 : xE Φ e3 l μ₂ with
         | ok z μ₃ => rw [h3] at e; exact lift_bool (o := leV y z) e
         | exc => rw [h3] at e; exact noe e
         | bad => rw [h3] at e; exact nob e
   | exc => rw [h2] at e; exact noe e
   | bad => rw [h2] at e; exact nob e
 | exc => rw [h1] at e; exact noe e
 | bad => rw [h1] at e; exact nob e
theorem st_chain {a b c : E} (ha : SE κ a) (hb : SE κ b) (hc : SE κ c) : ST κ (.chain a b c) := fun x X l σ Q E' ht cx h =>
 tr_chain ht fun l0 m0 r0 p h1 h2 h3 h4 => tt_test h4 (chain_run ha hb hc h1 h2 h3 cx (PostT.asE (μ := σ.μ) h fun v μ' e => chain_bool e) (fun _ q => by obtain ⟨b', e, q⟩ := q; cases e; exact q) fun _ _ q => by obtain ⟨b', e, q⟩ := q; cases e; exact wpAny_truthy_bool q)
theorem st_ite {t a b : E} (ht' : ST κ t) (ha : ST κ a) (hb : ST κ b) : ST κ (.ite t a b) := fun x X l σ Q E' ht cx h => by
 refine tr_ite ht fun y0 l0 r0 p h1 h2 h3 => isTrue_IfExp (ht' y0 X l σ _ E' h1 cx (PostT.test (f := xE κ.Φ a l) (g := xE κ.Φ b l) h cx fun bb σ₁ a₁ h₁ => ?_))
 cases bb
 · exact hb r0 X l σ₁ _ E' h3 a₁.c h₁
 · exact ha l0 X l σ₁ _ E' h2 a₁.c h₁
theorem tand_nil : TAnd κ .nil := fun xs pos whole X l σ Q E' ht c h => trEs_nil ht (isTrue_and_nil (PostT.plain (b := true) h c.I))
theorem tor_nil : TOr κ .nil := fun xs pos whole X l σ Q E' ht c h => trEs_nil ht (isTrue_or_nil (PostT.plain (b := false) h c.I))
theorem tand_cons {e : E} {es : Es} (he : ST κ e) (hes : TAnd κ es) : TAnd κ (.cons e es) := fun xs pos whole X l σ Q E' ht c h => by
 refine trEs_cons ht fun x r h1 h2 h3 => isTrue_and (he x X l σ _ E' h1 c (PostT.test (f := xAnd κ.Φ es l) (g := fun μ => .ok (.bool false) μ) h c fun v σ₁ a₁ h₁ => ?_))
 cases v
 · exact PostT.plain h₁ a₁.c.I
 · exact hes r pos _ X l σ₁ _ E' h3 a₁.c h₁
theorem tor_cons {e : E} {es : Es} (he : ST κ e) (hes : TOr κ es) : TOr κ (.cons e es) := fun xs pos whole X l σ Q E' ht c h => by
 refine trEs_cons ht fun x r h1 h2 h3 => isTrue_or (he x X l σ _ E' h1 c (PostT.test (f := fun μ => .ok (.bool true) μ) (g := xOr κ.Φ es l) h c fun v σ₁ a₁ h₁ => ?_))
 cases v
 · exact hes r pos _ X l σ₁ _ E' h3 a₁.c h₁
 · exact PostT.plain h₁ a₁.c.I
theorem st_and {es : Es} (h' : TAnd κ es) : ST κ (.and es) := fun x X l σ Q E' ht c h => tr_and ht fun xs p h1 _ => h' xs p _ X l σ Q E' h1 c h
theorem st_or {es : Es} (h' : TOr κ es) : ST κ (.or es) := fun x X l σ Q E' ht c h => tr_or ht fun xs p h1 _ => h' xs p _ X l σ Q E' h1 c h
variable (κ) in
structure AllE (es : Es) : Prop where
 vs : SEs κ es
 an : SAnd κ es
 or : SOr κ es
 tan : TAnd κ es
 tor : TOr κ es
structure OkE (κ : Kn) (e : E) : Prop where
 s : SE κ e
 t : ST κ e
theorem okE (hΦ : SoundΦ κ) (e : E) : OkE κ e := @E.rec (OkE κ) (AllE κ)
 ⟨se_none, st_of (fun x sc ns ht => tr_none ht fun _ _ _ _ => rfl) se_none⟩
 (fun b => ⟨se_bool b, st_of (fun x sc ns ht => tr_bool ht fun _ _ _ _ => rfl) (se_bool b)⟩)
 (fun i => ⟨se_int i, st_of (fun x sc ns ht => tr_int ht fun _ _ _ _ => rfl) (se_int i)⟩)
 (fun t => ⟨se_str t, st_of (fun x sc ns ht => tr_str ht fun _ _ _ _ _ _ => rfl) (se_str t)⟩)
 (fun i => ⟨se_loc i, st_of (fun x sc ns ht => tr_loc ht fun _ _ _ _ _ _ _ => rfl) (se_loc i)⟩)
 (fun i => ⟨se_gl i, st_of (fun x sc ns ht => tr_gl ht fun _ _ _ _ _ _ => rfl) (se_gl i)⟩)
 (fun op a b ha hb => ⟨se_bin ha.s hb.s, st_of (fun x sc ns ht => tr_bin ht fun _ _ _ _ _ _ _ => rfl) (se_bin ha.s hb.s)⟩)
 (fun a ha => ⟨se_neg ha.s, st_of (fun x sc ns ht => tr_neg ht fun _ _ _ _ _ => rfl) (se_neg ha.s)⟩)
 (fun a ha => ⟨se_not ha.s, st_not ha.t⟩)
 (fun op a b ha hb => ⟨se_cmp ha.s hb.s, st_cmp ha.s hb.s⟩)
 (fun a b c ha hb hc => ⟨se_chain ha.s hb.s hc.s, st_chain ha.s hb.s hc.s⟩)
 (fun es h => ⟨se_and h.an, st_and h.tan⟩)
 (fun es h => ⟨se_or h.or, st_or h.tor⟩)
 (fun t a b ht ha hb => ⟨se_ite ht.t ha.s hb.s, st_ite ht.t ha.t hb.t⟩)
 (fun es h => ⟨se_tup h.vs, st_of (fun x sc ns ht => tr_tup ht fun _ _ _ _ _ _ _ => rfl) (se_tup h.vs)⟩)
 (fun es h => ⟨se_il h.vs, st_of (fun x sc ns ht => tr_il ht fun _ _ _ _ _ _ => rfl) (se_il h.vs)⟩)
 (fun es h => ⟨se_ml h.vs, st_of (fun x sc ns ht => tr_ml ht fun _ _ _ _ _ _ => rfl) (se_ml h.vs)⟩)
 (fun a i ha hi => ⟨se_idx ha.s hi.s, st_of (fun x sc ns ht => tr_idx ht fun _ _ _ _ _ _ _ _ => rfl) (se_idx ha.s hi.s)⟩)
 (fun a lo hi ha hl hh => ⟨se_slice ha.s hl.s hh.s, st_of (fun x sc ns ht => tr_slice ht fun _ _ _ _ _ _ _ _ _ _ => rfl) (se_slice ha.s hl.s hh.s)⟩)
 (fun f es h => ⟨se_call hΦ h.vs, st_of (fun x sc ns ht => tr_call ht fun _ _ _ _ _ _ _ _ _ _ => rfl) (se_call hΦ h.vs)⟩)
 (fun b es h => ⟨se_bi h.vs, st_of (fun x sc ns ht => tr_bi ht fun _ _ _ _ _ _ _ _ => rfl) (se_bi h.vs)⟩)
 (fun m a es ha h => ⟨se_me ha.s h.vs, st_of (fun x sc ns ht => tr_me ht fun _ _ _ _ _ _ _ _ _ _ _ => rfl) (se_me ha.s h.vs)⟩)
 (fun a ha => ⟨se_inEsc ha.s, st_inEsc ha.s⟩)
 (fun a ha => ⟨se_getEsc ha.s, st_of (fun x sc ns ht => tr_getEsc ht fun _ _ _ _ _ _ _ _ => rfl) (se_getEsc ha.s)⟩)
 (fun a ha => ⟨se_closer ha.s, st_of (fun x sc ns ht => tr_closer ht fun _ _ _ _ _ _ _ _ _ _ _ _ _ _ => rfl) (se_closer ha.s)⟩)
 (fun cs elt it cond he hi hc => ⟨se_comp hi.s he.s hc.t, st_of (fun x sc ns ht => tr_comp ht fun _ _ _ _ _ _ _ _ _ _ _ _ _ _ _ _ => rfl) (se_comp hi.s he.s hc.t)⟩)
 ⟨ses_nil, sand_nil, sor_nil, tand_nil, tor_nil⟩
 (fun e es he h => ⟨ses_cons he.s h.vs, sand_cons he.s h.an, sor_cons he.s h.or, tand_cons he.t h.tan, tor_cons he.t h.tor⟩) e
end
end Mine
end
section
open PySem PySem.W PyProof.Rows PySem.Calls
namespace Mine
structure ToF (X : Ct) (σ σ' : Sg) : Prop where
 st : Step (own X.env) σ.ρ σ.s.heap σ'.ρ σ'.s.heap
 sm : Same σ.s σ'.s
theorem ToF.refl (X : Ct) (σ : Sg) : ToF X σ σ := ⟨Step.refl .., Same.refl _⟩
theorem ToF.trans {X : Ct} {a b c : Sg} (x : ToF X a b) (y : ToF X b c) : ToF X a c := ⟨x.st.trans y.st, x.sm.trans y.sm⟩
theorem To.toF {X : Ct} {a b : Sg} (x : To a b) : ToF X a b := ⟨x.st.nil, x.sm⟩
structure AftF (κ : Kn) (X : Ct) (l : Loc) (μ : Mem) (σ σ' : Sg) : Prop where
 t : ToF X σ σ'
 I : Inv κ.base σ'.ρ μ σ'.s.heap
 F : Frm X.ns X.env σ'.s.heap σ'.ρ l
structure AftX (κ : Kn) (X : Ct) (l : Loc) (μ : Mem) (σ : Sg) (e : Addr) (ρ' : List Addr) (hr : Heap) (s' : Shared) : Prop where
 st : Step (own X.env) σ.ρ σ.s.heap ρ' hr
 I : Inv κ.base ρ' μ hr
 F : Frm X.ns X.env hr ρ' l
 x : ExcS κ.base σ.s.heap X.outer hr e (.ref κ.C) s'.heap
 sm : Same σ.s s'
noncomputable abbrev QF := Flow → Shared → Prop
noncomputable def PostF (κ : Kn) (X : Ct) (σ : Sg) (r : F) (Q : QF) (E : QV) : Prop :=
 match r with
 | .next l μ' => ∀ σ', AftF κ X l μ' σ σ' → Q .next σ'.s
 | .brk l μ' => ∀ σ', AftF κ X l μ' σ σ' → Q .brk σ'.s
 | .cont l μ' => ∀ σ', AftF κ X l μ' σ σ' → Q .cont σ'.s
 | .ret v μ' => ∀ x σ', ToF X σ σ' → Inv κ.base σ'.ρ μ' σ'.s.heap → Is σ' v x → Q (.ret x) σ'.s
 | .exc l μ' => ∀ e ρ' hr s', AftX κ X l μ' σ e ρ' hr s' → E (.ref e) s'
 | .bad => False
section
variable {κ : Kn} {X : Ct} {l l' : Loc} {μ μ' : Mem} {σ σ' σ₁ : Sg} {Q : QF} {E' : QV} {v : V} {x : Value}
theorem PostF.mono {r : F} (h : PostF κ X σ r Q E') (t : ToF X σ σ₁) : PostF κ X σ₁ r Q E' := by
 cases r with
 | next l μ => exact fun σ' a => h σ' ⟨t.trans a.t, a.I, a.F⟩
 | brk l μ => exact fun σ' a => h σ' ⟨t.trans a.t, a.I, a.F⟩
 | cont l μ => exact fun σ' a => h σ' ⟨t.trans a.t, a.I, a.F⟩
 | ret v μ => exact fun x σ' t' => h x σ' (t.trans t')
 | exc l μ => exact fun e ρ' hr s' a => h e ρ' hr s' ⟨t.st.trans a.st, a.I, a.F, a.x.back t.st.ex.live, t.sm.trans a.sm⟩
 | bad => exact h
theorem Cx.hρ (c : Cx κ X l σ) : ∀ a ∈ σ.ρ, ∃ vals, SeqAt "list" σ.s.heap a vals := fun a ha => c.I.at ha
theorem Cx.stepF (c : Cx κ X l σ) {σ' : Sg} (a : AftF κ X l' σ'.μ σ σ') : Cx κ X l' σ' := ⟨c.T, c.K, a.F, c.a.step a.t.st, a.I⟩
theorem PostF.exc0 (h : PostF κ X σ (.exc l μ') Q E') (c : Cx κ X l σ) {e : Addr} {ρ' : List Addr} {hr : Heap} {s' : Shared} (st : Step [] σ.ρ σ.s.heap ρ' hr) (I : Inv κ.base ρ' μ' hr) (x : ExcS κ.base σ.s.heap X.outer hr e (.ref κ.C) s'.heap) (sm : Same σ.s s') : E' (.ref e) s' :=
 h e ρ' hr s' ⟨st.nil, I, c.F.step c.hρ st, x, sm⟩
theorem PostF.bind {f : V → Mem → F} {r : O V} {Q' : QV} (h : PostF κ X σ (of2 l f r) Q E') (c : Cx κ X l σ) (k : ∀ v x σ₁, Aft κ X l σ σ₁ → Is σ₁ v x → PostF κ X σ₁ (f v σ₁.μ) Q E' → Q' x σ₁.s) : PostE κ X σ r Q' E' := by
 cases r with
 | ok v μ₁ => exact fun x ρ₁ s₁ st I r sm => k v x ⟨ρ₁, μ₁, s₁⟩ ⟨c.step ⟨st, sm⟩ I, st, sm⟩ r (PostF.mono (r := f v μ₁) h ⟨st.nil, sm⟩)
 | exc μ₁ => exact fun e ρ' hr s' st I x sm => PostF.exc0 (μ' := μ₁) h c st I x sm
 | bad => exact h
theorem PostF.bind1 {f : V → Mem → F} {r : O V} {Q' : QV} (h : PostF κ X σ (of1 l f r) Q E') (c : Cx κ X l σ) (k : ∀ v x σ₁, Aft κ X l σ σ₁ → Is σ₁ v x → PostF κ X σ₁ (f v σ₁.μ) Q E' → Q' x σ₁.s) : PostE κ X σ r Q' E' := PostF.bind (f := f) (r := r) h c k
theorem PostF.bind0 {f : V → Mem → F} {r : O V} {Q' : QV} (h : PostF κ X σ (of0 l f r) Q E') (c : Cx κ X l σ) (k : ∀ v x σ₁, Aft κ X l σ σ₁ → Is σ₁ v x → PostF κ X σ₁ (f v σ₁.μ) Q E' → Q' x σ₁.s) : PostE κ X σ r Q' E' := PostF.bind (f := f) (r := r) h c k
theorem PostF.opt {α : Type} {f : α → F} {r : Option α} (h : PostF κ X σ (optF f r) Q E') {R : Prop} (k : ∀ a, r = some a → PostF κ X σ (f a) Q E' → R) : R := by
 cases r with
 | none => exact h.elim
 | some a => exact k a rfl h
theorem PostF.next (h : PostF κ X σ (.next l μ') Q E') (c : Cx κ X l σ) {ρ' : List Addr} {s' : Shared} (st : Step [] σ.ρ σ.s.heap ρ' s'.heap) (I : Inv κ.base ρ' μ' s'.heap) (sm : Same σ.s s') : Q .next s' :=
 h ⟨ρ', μ', s'⟩ ⟨⟨st.nil, sm⟩, I, c.F.step c.hρ st⟩
mutual
noncomputable def S.noTry : S → Bool
 | .tryS .. => false
 | .ite _ a b => a.noTry && b.noTry
 | .whl _ b => b.noTry
 | .forE _ _ b => b.noTry
 | .forR _ _ b => b.noTry
 | _ => true
noncomputable def Ss.noTry : Ss → Bool
 | .nil => true
 | .cons s ss => s.noTry && ss.noTry
end
noncomputable def TryOK (b : Bool) (X : Ct) : Prop := b = true ∨ (X.outer = [X.env] ∧ X.env.frame = some X.env.locals)
theorem TryOK.left {a b : Bool} (h : TryOK (a && b) X) : TryOK a X := h.imp (fun q => (Bool.and_eq_true_iff.mp q).1) id
theorem TryOK.right {a b : Bool} (h : TryOK (a && b) X) : TryOK b X := h.imp (fun q => (Bool.and_eq_true_iff.mp q).2) id
structure Own (X : Ct) : Prop where
 o : ∃ o, X.outer = X.env :: o
 nf : ∀ n ∈ X.ns, X.env.kindOf n ≠ some .free
variable (κ) in
noncomputable def SS (st : S) : Prop := ∀ (x : Stmt) (X : Ct) (l : Loc) (σ : Sg) (Q : QF) (E' : QV), trS X.sc X.ns st x = true → TryOK st.noTry X → Own X → Cx κ X l σ → PostF κ X σ (xS κ.Φ st l σ.μ) Q E' → wpAny κ.M X.A (exec x X.env) Q E' σ.s
variable (κ) in
noncomputable def SSs (ss : Ss) : Prop := ∀ (xs : List Stmt) (X : Ct) (l : Loc) (σ : Sg) (Q : QF) (E' : QV), trSs X.sc X.ns ss xs = true → TryOK ss.noTry X → Own X → Cx κ X l σ → PostF κ X σ (xSs κ.Φ ss l σ.μ) Q E' → wpAny κ.M X.A (execs xs X.env) Q E' σ.s
theorem sss_nil : SSs κ .nil := fun xs X l σ Q E' ht ty w c h => trSs_nil ht (wpAny_execs_nil (h σ ⟨ToF.refl .., c.I, c.F⟩))
theorem sss_cons {st : S} {ss : Ss} (h1 : SS κ st) (h2 : SSs κ ss) : SSs κ (.cons st ss) := fun xs X l σ Q E' ht ty w c h => by
 refine trSs_cons ht fun x r ht1 ht2 => wpAny_execs_cons (h1 x X l σ _ E' ht1 ty.left w c ?_)
 rw [ss_cons] at h
 cases hr : xS κ.Φ st l σ.μ with
 | next l₁ μ₁ =>
   rw [hr] at h
   intro σ₁ a
   have a : AftF κ X l₁ μ₁ σ ⟨σ₁.ρ, μ₁, σ₁.s⟩ := ⟨⟨a.t.st, a.t.sm⟩, a.I, a.F⟩
   exact h2 r X l₁ ⟨σ₁.ρ, μ₁, σ₁.s⟩ Q E' ht2 ty.right w (c.stepF a) (PostF.mono (r := xSs κ.Φ ss l₁ μ₁) h a.t)
 | bad => rw [hr] at h; exact h.elim
 | _ => rw [hr] at h; exact h
theorem put_name (w : Own X) (c : Cx κ X l σ) {i : Nat} {n : Str} (hn : X.ns[i]? = some n) (r : Is σ v x) (h : PostF κ X σ (.next (l.set i (some v)) σ.μ) Q E') : wpAny κ.M X.A (storeName X.env n x) (fun _ s => Q .next s) E' σ.s :=
 store_ok c.K c.F c.I hn (w.nf _ (List.mem_of_getElem? hn)) r fun s₂ st₂ I₂ F₂ sm₂ => h ⟨σ.ρ, σ.μ, s₂⟩ ⟨⟨st₂, sm₂⟩, I₂, F₂⟩
theorem ss_assign {i : Nat} {e : E} (he : SE κ e) : SS κ (.assign i e) := fun x X l σ Q E' ht ty w c h =>
 trs_assign ht fun n0 q v0 p h1 h2 h3 => wpAny_Assign_Name (he v0 X l σ _ E' h2 c (PostF.bind (f := asK l i) h c fun v y σ₁ a r₁ h₁ => put_name w a.c h1 r₁ h₁)) (by cases v0 <;> first | rfl | exact ff h3)
theorem assignEach_names {ns : List Str} {env : Env} (is : List Nat) : ∀ (ts : List Expr), namesAre ns is ts = true → ts.length = is.length ∧ (assignEach ts env).length = ts.length ∧ (assignEach ts env).findIdx? (·.1) = none := by
 induction is with
 | nil => exact fun ts h => names_nil h ⟨rfl, rfl, rfl⟩
 | cons i is ih =>
   refine fun ts h => names_cons h fun n q r _ h2 => ?_
   obtain ⟨a, b, c⟩ := ih r h2
   exact ⟨congrArg (· + 1) a, congrArg (· + 1) b, by show ((false, _) :: assignEach r env).findIdx? (·.1) = none; rw [List.findIdx?_cons, c]; rfl⟩
theorem stores_ok (w : Own X) (is : List Nat) : ∀ (ts : List Expr) (vs : List V) (xs : List Value) {l l' : Loc} {σ : Sg} {Q : Unit → Shared → Prop}, namesAre X.ns is ts = true → Cx κ X l σ → RelL σ.ρ σ.s.heap vs xs → setAll l is vs = some l' →
   (∀ σ', σ'.μ = σ.μ → AftF κ X l' σ.μ σ σ' → Q () σ'.s) → wpAny κ.M X.A (assignInOrder ((assignEach ts X.env).map (·.2)) xs) Q E' σ.s := by
 induction is with
 | nil =>
   intro ts vs xs l l' σ Q hn c r hs hQ
   refine names_nil hn ?_
   cases vs with
   | nil => cases hs; exact r.nilI (wpAny_pure (hQ σ rfl ⟨ToF.refl .., c.I, c.F⟩))
   | cons => exact nof hs
 | cons i is ih =>
   intro ts vs xs l l' σ Q hn c r hs hQ
   refine names_cons hn fun n q t h1 h2 => ?_
   cases vs with
   | nil => exact nof hs
   | cons v vs =>
     refine r.consI fun x xs r1 r2 => ?_
     show wpAny _ X.A (do holding _ (assign _ X.env _); assignInOrder ((assignEach t X.env).map (·.2)) _) Q E' σ.s
     refine wpAny_bind (wpAny_holding (wpAny_assign_Name (store_ok c.K c.F c.I h1 (w.nf _ (List.mem_of_getElem? h1)) r1 fun s₁ st₁ I₁ F₁ sm₁ => ?_)))
     have a : AftF κ X (l.set i (some v)) σ.μ σ ⟨σ.ρ, σ.μ, s₁⟩ := ⟨⟨st₁, sm₁⟩, I₁, F₁⟩
     exact ih t vs xs (σ := ⟨σ.ρ, σ.μ, s₁⟩) h2 (c.stepF a) (r2.step st₁) hs fun σ₂ e₂ a₂ => hQ σ₂ e₂ ⟨a.t.trans a₂.t, a₂.I, a₂.F⟩
theorem unpack_ok {vs : List V} {n : Nat} {Q : List Value → Shared → Prop} (c : Cx κ X l σ) (r : Is σ v x) (hv : unpackV v = some vs) (hn : n = vs.length)
   (hQ : ∀ xs h', RelL σ.ρ h' vs xs → (∀ b o, σ.s.heap.get? b = some o → h'.get? b = some o) → Q xs { σ.s with heap := h' }) : wpAny κ.M X.A (unpackItems x n none) Q E' σ.s := by
 have kk : ∀ {h' : Heap}, Heap.ExtBut σ.s.heap.objs.size σ.s.heap h' → ∀ b o, σ.s.heap.get? b = some o → h'.get? b = some o := fun {h'} he b o e => he b o (Nat.ne_of_lt (Heap.lt_size e)) e
 cases v with
 | tup ws =>
   cases hv
   refine r.tupI fun a vals h1 _ _ h4 => ?_
   obtain ⟨k, h1⟩ := h1
   have ht : σ.s.heap.IsTuple a vals.toArray := ⟨_, h1, rfl, k, rfl⟩
   rw [show n = vals.toArray.size from hn.trans h4.length]
   exact wpAny_unpackItems_tuple c.a.handled ht fun h' he => hQ _ h' (h4.step (X := []) (Step.of_keeps (kk he))) (kk he)
 | il ws =>
   cases hv
   refine r.ilI fun a vals h1 _ _ h4 => ?_
   rw [show n = vals.toArray.size from hn.trans h4.length]
   exact kun_itemsOf c.a.handled h1.isList fun h' he => hQ _ h' (h4.step (X := []) (Step.of_keeps (kk he))) (kk he)
 | _ => exact nof hv
theorem setAll_len (is : List Nat) : ∀ (vs : List V) (l l' : Loc), setAll l is vs = some l' → is.length = vs.length := by
 induction is with
 | nil => intro vs l l' h; cases vs with
   | nil => rfl
   | cons => exact nof h
 | cons i is ih => intro vs l l' h; cases vs with
   | nil => exact nof h
   | cons v vs => exact congrArg (· + 1) (ih vs _ l' h)
theorem ss_assignT {is : List Nat} {e : E} (he : SE κ e) : SS κ (.assignT is e) := fun x X l σ Q E' ht ty w c h => by
 refine trs_assignT ht fun ts k1 p1 v0 p0 h1 h3 h4 => ?_
 obtain ⟨n1, n2, n3⟩ := assignEach_names (env := X.env) is ts h1
 refine wpAny_Assign_stores (he v0 X l σ _ E' h3 c (PostF.bind (f := asTK l is) h c fun v y σ₁ a r₁ h₁ => PostF.opt h₁ fun vs hv h₁ => PostF.opt (r := setAll l is vs) h₁ fun l₂ hl h₁ => ?_)) (by cases v0 <;> first | rfl | exact ff h4) (by cases v0 <;> first | rfl | exact ff h4)
 show wpAny _ X.A (assign (.Tuple ts k1 p1) X.env y) _ E' σ₁.s
 rw [arm_assign_Tuple]
 refine wpAny_bind (wpAny_standAt ?_)
 unfold unpack
 rw [n3, n2]
 refine wpAny_bind (wpAny_holding (unpack_ok a.c r₁ hv (by rw [n1, setAll_len is vs _ _ hl]) fun xs h' rL k => ?_))
 have t₂ : To σ₁ ⟨σ₁.ρ, σ₁.μ, { σ₁.s with heap := h' }⟩ := ⟨.of_keeps k, rfl, rfl⟩
 exact stores_ok (σ := ⟨σ₁.ρ, σ₁.μ, { σ₁.s with heap := h' }⟩) w is ts vs xs h1 (a.c.step t₂ (a.c.I.keeps k)) rL hl fun σ₃ _ a₃ => h₁ σ₃ ⟨t₂.toF.trans a₃.t, a₃.I, a₃.F⟩
theorem ss_setIdx {a i e : E} (ha : SE κ a) (hi : SE κ i) (he : SE κ e) : SS κ (.setIdx a i e) := fun x X l σ Q E' ht ty w c h =>
 trs_setIdx ht fun l0 r0 p1 v0 p0 h1 h2 h3 h4 h5 => wpAny_Assign_Subscript (he v0 X l σ _ E' h1 c (PostF.bind (f := siK (xE κ.Φ a) (xE κ.Φ i) l) h c fun v y σ₁ a₁ r₁ h₁ =>
   ha l0 X l σ₁ _ E' h2 a₁.c (PostF.bind1 (f := siK2 (xE κ.Φ i) l v) h₁ a₁.c fun v₂ y₂ σ₂ a₂ r₂ h₂ => hi r0 X l σ₂ _ E' h3 a₂.c (PostF.bind0 (f := siK3 l v v₂) h₂ a₂.c fun v₃ y₃ σ₃ a₃ r₃ h₃ =>
     PostF.opt h₃ fun μ₄ hp h₃ => put_ok a₃.c.I (r₂.step a₃.t.st) r₃ (r₁.step (a₂.t.trans a₃.t).st) hp fun s₄ st₄ I₄ sm₄ => PostF.next h₃ a₃.c st₄ I₄ sm₄)))) (by cases v0 <;> first | rfl | exact ff h5)
theorem ss_aug {i : Nat} {op : Bop} {e : E} (he : SE κ e) : SS κ (.aug i op e) := fun x X l σ Q E' ht ty w c h => by
 refine trs_aug ht fun n0 p1 v0 p0 h1 h3 h4 => PostF.opt (f := augK l i op (xE κ.Φ e) σ.μ) h fun old hold h => ?_
 obtain ⟨x, rx, hx⟩ := loc_ok (prog := κ.prog) (w := κ.w) (A := X.A) (E := E') c.K c.F h1 hold
 refine wpAny_AugAssign_Name (hx _ ?_ (nt h4))
 refine he v0 X l σ _ E' h3 c (PostF.bind1 (f := augK2 l i op old) h c fun v y σ₁ a r₁ h₁ => PostF.opt (f := augK3 l i σ₁.μ) h₁ fun new hnew h₁ => aug_ok (c := new) a.c.I (rx.step a.t.st) r₁ hnew fun z ρ₂ s₂ st₂ I₂ r₂ sm₂ => ?_)
 exact put_name (σ := ⟨ρ₂, σ₁.μ, s₂⟩) w (a.c.step ⟨st₂, sm₂⟩ I₂) h1 r₂ (PostF.mono h₁ ⟨st₂.nil, sm₂⟩)
theorem ss_expr {e : E} (he : SE κ e) : SS κ (.expr e) := fun x X l σ Q E' ht ty w c h =>
 trs_expr ht fun v0 p0 h1 h2 => wpAny_Expr_any (he v0 X l σ _ E' h1 c (PostF.bind (f := exK l) h c fun v y σ₁ a r₁ h₁ => PostF.next h₁ a.c (Step.refl ..) a.c.I (Same.refl _))) c.K.plain (by cases v0 <;> first | rfl | exact ff h2)
theorem ss_append {a e : E} (ha : SE κ a) (he : SE κ e) : SS κ (.append a e) := fun x X l σ Q E' ht ty w c h => by
 refine trs_append ht fun o0 ap y0 p1 p0 h2 h3 h4 h5 h6 => ?_
 have hs : starEach [y0] X.env = [(false, eval y0 X.env)] := by rw [starEach_cons h4]; rfl
 refine wpAny_Expr_any (wpAny_Call_method (T := "list") (id := "list.append") (base_plain h3) (by rw [hs]; rfl) h2 F.plainAttrs_list F.slot_list_append F.type_list_append
   (ha o0 X l σ _ E' h5 c (PostF.bind (f := apK (xE κ.Φ e) l) h c fun v y σ₁ a₁ r₁ h₁ => ?_))) c.K.plain rfl
 unfold apK at h₁
 cases hok : okMe .pop v with
 | false => rw [hok] at h₁; exact h₁.elim
 | true =>
 rw [hok, if_pos rfl] at h₁
 obtain ⟨t1, t2⟩ := okMe_type (m := .pop) a₁.c.I r₁ hok
 refine ⟨t1, t2, ?_⟩
 rw [hs]
 show wpAny _ X.A (callWith p1 (.builtin "list.append") [y] ((false, eval y0 X.env) :: []) []) _ E' σ₁.s
 exact callWith_builtin rfl (evalArgs_plain (spliced_cons (he y0 X l σ₁ _ E' h6 a₁.c (PostF.bind1 h₁ a₁.c fun v₂ z σ₂ a₂ r₂ h₂ => spliced_nil (PostF.opt h₂ fun μ₃ hap h₂ =>
   append_ok a₂.c.I (r₁.step a₂.t.st) r₂ hap fun s₃ st₃ I₃ sm₃ => PostF.next h₂ a₂.c st₃ I₃ sm₃)))))
noncomputable def pickF (x y : Mem → F) (b : Bool) (μ : Mem) : F := match b with | true => x μ | false => y μ
theorem tb_boolF (l : Loc) (x y : Mem → F) (r : O V) : of2 l (fun v μ => boolF (x μ) (y μ) v) r = of2 l (pickF x y) (tb r) := by
 cases r with
 | ok v μ => cases v with
   | bool b => cases b <;> rfl
   | _ => rfl
 | _ => rfl
theorem PostF.test {f g : Mem → F} {r : O V} {QB : Bool → Shared → Prop} (h : PostF κ X σ (of2 l (fun v μ => boolF (f μ) (g μ) v) r) Q E') (c : Cx κ X l σ)
   (k : ∀ b σ₁, Aft κ X l σ σ₁ → PostF κ X σ₁ (pickF f g b σ₁.μ) Q E' → QB b σ₁.s) : PostT κ X σ (tb r) QB E' := by
 rw [tb_boolF] at h
 cases hr : tb r with
 | ok b μ₁ =>
   rw [hr] at h
   intro b' ρ₁ s₁ st I q sm
   cases (q : b = b')
   exact k b ⟨ρ₁, μ₁, s₁⟩ ⟨c.step ⟨st, sm⟩ I, st, sm⟩ (PostF.mono (r := pickF f g b μ₁) h ⟨st.nil, sm⟩)
 | exc μ₁ => rw [hr] at h; exact fun e ρ' hr s' st I x sm => PostF.exc0 (μ' := μ₁) h c st I x sm
 | bad => rw [hr] at h; exact h
theorem ss_ite {t : E} {a b : Ss} (h1 : ST κ t) (ha : SSs κ a) (hb : SSs κ b) : SS κ (.ite t a b) := fun x X l σ Q E' ht ty w c h => by
 refine trs_ite ht fun t0 p q p0 h2 h3 h4 => wpAny_If (h1 t0 X l σ _ E' h2 c (PostF.test (f := xSs κ.Φ a l) (g := xSs κ.Φ b l) h c fun bb σ₁ a₁ h₁ => ?_))
 cases bb
 · exact hb q X l σ₁ Q E' h4 ty.right w a₁.c h₁
 · exact ha p X l σ₁ Q E' h3 ty.left w a₁.c h₁
theorem ss_brk : SS κ .brk := fun x X l σ Q E' ht ty w c h => trs_brk ht fun p => wpAny_Break (h σ ⟨ToF.refl .., c.I, c.F⟩)
theorem ss_cont : SS κ .cont := fun x X l σ Q E' ht ty w c h => trs_cont ht fun p => wpAny_Continue (h σ ⟨ToF.refl .., c.I, c.F⟩)
theorem ss_ret {e : E} (he : SE κ e) : SS κ (.ret e) := fun x X l σ Q E' ht ty w c h =>
 trs_ret ht fun v0 p => fun h1 => wpAny_Return_some (he v0 X l σ _ E' h1 c (PostF.bind (f := F.ret) h c fun v y σ₁ a r₁ h₁ => h₁ y σ₁ (ToF.refl ..) a.c.I r₁))
theorem loop_end {l₁ : Loc} {μ₁ : Mem} {e : Addr} {ρ' : List Addr} {hr : Heap} {s' : Shared} (w : Own X) (c : Cx κ X l σ) (h : PostF κ X σ (.exc l₁ μ₁) Q E') (a : AftX κ X l₁ μ₁ σ e ρ' hr s') :
   notedBy κ.M X.A X.env (fun e s' => cameBackBy κ.M X.A X.env E' e s') (.ref e) s' := by
 obtain ⟨L, hL⟩ := c.K.frame
 obtain ⟨o, ho⟩ := w.o
 have x := a.x
 rw [ho] at x
 refine loop_exc hL (c.a.frames.trans (congrArg some ho)) a.I.stays x fun h' x' => ?_
 rw [← ho] at x'
 exact h e ρ' hr { s' with heap := h' } ⟨a.st, a.I, a.F, x', a.sm.gens, a.sm.os⟩
theorem PostF.body {k : Loc → Mem → F} {r : F} {QL : QF} {E₂ : QV} {σ₀ : Sg} (w : Own X) (c : Cx κ X l σ) (t : ToF X σ₀ σ) (h : PostF κ X σ₀ (bodyK k r) Q E') (hE : ∀ e s', notedBy κ.M X.A X.env (fun e s' => cameBackBy κ.M X.A X.env E' e s') (.ref e) s' → E₂ (.ref e) s')
   (kn : ∀ l₂ σ₂, AftF κ X l₂ σ₂.μ σ σ₂ → PostF κ X σ₀ (k l₂ σ₂.μ) Q E' → QL .next σ₂.s ∧ QL .cont σ₂.s) (kb : ∀ s, Q .next s → QL .brk s) (kr : ∀ x s, Q (.ret x) s → QL (.ret x) s) : PostF κ X σ r QL E₂ := by
 cases r with
 | next l₂ μ₂ => exact fun σ₂ a => (kn l₂ ⟨σ₂.ρ, μ₂, σ₂.s⟩ ⟨⟨a.t.st, a.t.sm⟩, a.I, a.F⟩ h).1
 | cont l₂ μ₂ => exact fun σ₂ a => (kn l₂ ⟨σ₂.ρ, μ₂, σ₂.s⟩ ⟨⟨a.t.st, a.t.sm⟩, a.I, a.F⟩ h).2
 | brk l₂ μ₂ => exact fun σ₂ a => kb _ (h σ₂ ⟨t.trans a.t, a.I, a.F⟩)
 | ret v μ₂ => exact fun x σ₂ t' I r => kr x _ (h x σ₂ (t.trans t') I r)
 | exc l₂ μ₂ => exact fun e ρ' hr s' a => hE e s' (loop_end w c (PostF.mono (r := .exc l₂ μ₂) h t) a)
 | bad => exact h
theorem whl_inv {t : E} {b : Ss} {Φ : OK} (h : PostF κ X σ (xS Φ (.whl t b) l σ.μ) Q E') : ∃ n, PostF κ X σ (iterW (xE Φ t) (xSs Φ b) n l σ.μ) Q E' := by
 rw [s_whl] at h
 unfold loopW at h
 split at h
 case isTrue hex => exact ⟨_, h⟩
 case isFalse => exact h.elim
theorem ss_whl {t : E} {b : Ss} (h1 : ST κ t) (hb : SSs κ b) : SS κ (.whl t b) := fun x X l σ Q E' ht ty w c h => by
 refine trs_whl ht fun t0 p p0 h2 h3 => ?_
 obtain ⟨n, h⟩ := whl_inv h
 refine wpAny_While (codeAny_whileLoop (fun n s' => ∃ l' ρ' μ', PostF κ X ⟨ρ', μ', s'⟩ (iterW (xE κ.Φ t) (xSs κ.Φ b) n l' μ') Q E' ∧ Cx κ X l' ⟨ρ', μ', s'⟩) ?_ n ⟨l, σ.ρ, σ.μ, h, c⟩)
 rintro n s' ⟨l', ρ', μ', h, c⟩
 cases n with
 | zero => exact h.elim
 | succ n =>
   have h : PostF κ X ⟨ρ', μ', s'⟩ (whK (fun μ₁ => bodyK (iterW (xE κ.Φ t) (xSs κ.Φ b) n) (xSs κ.Φ b l' μ₁)) l' (xE κ.Φ t l' μ')) Q E' := h
   refine h1 t0 X l' ⟨ρ', μ', s'⟩ _ _ h2 c ?_
   cases he : xE κ.Φ t l' μ' with
   | bad => rw [he] at h; exact h.elim
   | exc μ₁ => rw [he] at h; exact fun e ρ₁ hr₁ s₁ st₁ I₁ x₁ sm₁ => loop_end (σ := ⟨ρ', μ', s'⟩) w c h ⟨st₁.nil, I₁, c.F.step c.hρ st₁, x₁, sm₁⟩
   | ok v μ₁ =>
     rw [he] at h
     cases v with
     | bool bb =>
       intro bb' ρ₁ s₁ st₁ I₁ rb sm₁
       cases (rb : bb = bb')
       have c₁ : Cx κ X l' ⟨ρ₁, μ₁, s₁⟩ := c.step ⟨st₁, sm₁⟩ I₁
       cases bb with
       | false => exact wpAny_execs_nil (PostF.next (μ' := μ₁) h c st₁ I₁ sm₁)
       | true =>
         exact hb p X l' ⟨ρ₁, μ₁, s₁⟩ _ _ h3 ty w c₁ (PostF.body w c₁ ⟨st₁.nil, sm₁⟩ (k := iterW (xE κ.Φ t) (xSs κ.Φ b) n) h (fun _ _ q => q) (fun l₂ σ₂ a h =>
           have q : ∃ m, m < n + 1 ∧ ∃ l' ρ' μ', PostF κ X ⟨ρ', μ', σ₂.s⟩ (iterW (xE κ.Φ t) (xSs κ.Φ b) m l' μ') Q E' ∧ Cx κ X l' ⟨ρ', μ', σ₂.s⟩ := ⟨n, Nat.lt_succ_self n, l₂, σ₂.ρ, σ₂.μ, PostF.mono h ⟨st₁.nil.trans a.t.st, sm₁.trans a.t.sm⟩, c₁.stepF a⟩
           ⟨q, q⟩) (fun _ q => q) fun _ _ q => q)
     | _ => exact h.elim
end
end Mine
end
section
open PySem PySem.W PyProof.Rows PySem.Calls
namespace Mine
structure Lp where
 κ : Kn
 X : Ct
 b : Ss
 i : Nat
 n0 : Str
 I : Addr
 k : ItKind
 vs : List V
 stay : Mem → Prop
 σ : Sg
 Q : QF
 E' : QV
structure Lp.OK (c : Lp) : Prop where
 w : Own c.X
 hb : SSs c.κ c.b
 ty : TryOK c.b.noTry c.X
 hn : c.X.ns[c.i]? = some c.n0
 newI : c.σ.s.heap.get? c.I = none
 bI : c.κ.base.get? c.I = none
 hh : c.X.A.handled = none
 items : ∀ σ', ToF c.X c.σ σ' → Inv c.κ.base σ'.ρ σ'.μ σ'.s.heap → c.stay σ'.μ → c.k.Items σ'.ρ σ'.s.heap c.vs
structure Lp.At (c : Lp) (j : Nat) (l : Loc) (σ' : Sg) : Prop where
 t : ToF c.X c.σ σ'
 cx : Cx c.κ c.X l σ'
 it : c.k.St c.I j σ'.s.heap
 sty : c.stay σ'.μ
noncomputable def Lp.run (c : Lp) (vs : List V) (l : Loc) (μ : Mem) : F := forL c.i (xSs c.κ.Φ c.b) c.stay vs l μ
section
variable {c : Lp} {j : Nat} {l : Loc} {y : V} {σ' σ₂ : Sg}
theorem onlyF_post {κ : Kn} {X : Ct} {σ : Sg} {p : Prop} {r : F} {Q : QF} {E' : QV} (h : PostF κ X σ (onlyF p r) Q E') : p ∧ PostF κ X σ r Q E' := by
 unfold onlyF at h
 by_cases q : p
 · rw [if_pos q] at h; exact ⟨q, h⟩
 · rw [if_neg q] at h; exact h.elim
theorem Lp.At.step (a : c.At j l σ') {l₂ : Loc} (s : AftF c.κ c.X l₂ σ₂.μ σ' σ₂) (sty : c.stay σ₂.μ) : c.At j l₂ σ₂ :=
 let ⟨_, _, ho, hd⟩ := a.it.fields
 ⟨a.t.trans s.t, a.cx.stepF s, a.it.at_ fun o' e => s.t.st.ex.keep c.I o' e (notOwn a.cx.F ho hd) (notIn a.cx.I ho hd), sty⟩
theorem Lp.At.moved (o : c.OK) (a : c.At j l σ') {h' : Heap} {tk : Nat} (hs : ∀ b, b ≠ c.I → ∀ x, σ'.s.heap.get? b = some x → h'.get? b = some x) : ToF c.X c.σ ⟨σ'.ρ, σ'.μ, { σ'.s with heap := h', toks := tk }⟩ ∧ Cx c.κ c.X l ⟨σ'.ρ, σ'.μ, { σ'.s with heap := h', toks := tk }⟩ := by
 obtain ⟨oI, fsI, hoI, hdI⟩ := a.it.fields
 have t : ToF c.X c.σ ⟨σ'.ρ, σ'.μ, { σ'.s with heap := h', toks := tk }⟩ := ⟨a.t.st.butNew o.newI hs, a.t.sm.gens, a.t.sm.os⟩
 refine ⟨t, a.cx.T, a.cx.K, a.cx.F.butFields hoI hdI hs, { a.cx.a with frs := a.cx.a.frs.live fun b x es n e d => ⟨x, es, n, hs b (fun q => ?_) x e, d⟩ }, a.cx.I.butAny hoI (notSeq hdI).1 o.bI hs⟩
 subst q; rw [hoI] at e; cases e; rw [hdI] at d; cases d
theorem for_done (o : c.OK) (a : c.At j l σ') (hv : c.vs[j]? = none) (h : PostF c.κ c.X c.σ (c.run (c.vs.drop j) l σ'.μ) c.Q c.E') {QO : Option Value → Shared → Prop} {E : QV} (kk : ∀ s, c.Q .next s → QO none s) : wpAny c.κ.M c.X.A (pyNext (.ref c.I)) QO E σ'.s := by
 refine next_done o.hh a.it (o.items σ' a.t a.cx.I a.sty) hv fun h' hext => kk _ ?_
 rw [List.drop_of_length_le (List.getElem?_eq_none_iff.mp hv)] at h
 have m := a.moved o (h' := h') (tk := σ'.s.toks) fun b hb x e => hext b x hb e
 exact h ⟨σ'.ρ, σ'.μ, { σ'.s with heap := h' }⟩ ⟨m.1, m.2.I, m.2.F⟩
theorem for_next (o : c.OK) (a : c.At j l σ') (hv : c.vs[j]? = some y) {px : Pos} {QO : Option Value → Shared → Prop} {QU : Unit → Shared → Prop} {E E₂ : QV} (hQ : ∀ x s, wpAny c.κ.M c.X.A (assign (.Name c.n0 px) c.X.env x) QU E₂ s → QO (some x) s)
   (kk : ∀ σ₂, c.At (j + 1) (l.set c.i (some y)) σ₂ → σ₂.μ = σ'.μ → QU () σ₂.s) : wpAny c.κ.M c.X.A (pyNext (.ref c.I)) QO E σ'.s := by
 refine next_item a.it (o.items σ' a.t a.cx.I a.sty) hv fun x h' tk rx hS hsb => hQ x _ ?_
 obtain ⟨t, cx⟩ := a.moved o (h' := h') (tk := tk) fun b hb x e => (hsb.2 b hb).trans e
 have a₁ : c.At (j + 1) l ⟨σ'.ρ, σ'.μ, { σ'.s with heap := h', toks := tk }⟩ := ⟨t, cx, hS, a.sty⟩
 exact wpAny_assign_Name (store_ok cx.K cx.F cx.I o.hn (o.w.nf _ (List.mem_of_getElem? o.hn)) rx fun s₄ st₄ I₄ F₄ sm₄ => kk ⟨σ'.ρ, σ'.μ, s₄⟩ (a₁.step (σ₂ := ⟨σ'.ρ, σ'.μ, s₄⟩) ⟨⟨st₄, sm₄⟩, I₄, F₄⟩ a.sty) rfl)
noncomputable def Lp.J (c : Lp) (n : Nat) (s : Shared) : Prop := ∃ j l ρ μ, c.At j l ⟨ρ, μ, s⟩ ∧ PostF c.κ c.X c.σ (c.run (c.vs.drop j) l μ) c.Q c.E' ∧ n = c.vs.length - j
theorem for_core (o : c.OK) {p1 : Pos} {body : List Stmt} (htb : trSs c.X.sc c.X.ns c.b body = true) (a : c.At 0 l σ') (h : PostF c.κ c.X c.σ (c.run c.vs l σ'.μ) c.Q c.E') :
   codeAny c.κ.M c.X.A (.forLoop (.Name c.n0 p1) (.ref c.I) body [] c.X.env) (fun r s' => match r with | .ok f => c.Q f s' | .error e => cameBackBy c.κ.M c.X.A c.X.env c.E' e s') σ'.s := by
 refine codeAny_forLoop c.J ?_ c.vs.length ⟨0, l, σ'.ρ, σ'.μ, a, h, rfl⟩
 rintro n s' ⟨j, l, ρ, μ, a, h, rfl⟩
 cases hv : c.vs[j]? with
 | none => exact for_done o a hv h fun s q => wpAny_execs_nil q
 | some y =>
   have hj := List.getElem?_eq_some_iff.mp hv
   have dec : c.vs.length - (j + 1) < c.vs.length - j := Nat.sub_succ_lt_self _ _ hj.1
   rw [List.drop_eq_getElem_cons hj.1, hj.2] at h
   refine for_next o a hv (fun x s q => q) fun σ₂ a₂ e₂ => ?_
   rw [show μ = σ₂.μ from e₂.symm] at h
   exact o.hb body c.X _ σ₂ _ _ htb o.ty o.w a₂.cx (PostF.body (k := fun l₂ μ₂ => onlyF (c.stay μ₂) (c.run (c.vs.drop (j + 1)) l₂ μ₂)) o.w a₂.cx a₂.t h (fun _ _ q => q) (fun l₃ σ₃ a₃ h₃ =>
     have q : ∃ m, m < c.vs.length - j ∧ c.J m σ₃.s := ⟨_, dec, j + 1, l₃, σ₃.ρ, σ₃.μ, a₂.step a₃ (onlyF_post h₃).1, (onlyF_post h₃).2, rfl⟩
     ⟨q, q⟩) (fun _ q => q) fun _ _ q => q)
end
section
variable {κ : Kn} {X : Ct} {l : Loc} {σ : Sg} {Q : QF} {E' : QV}
theorem for_start {b : Ss} {i : Nat} {n0 : Str} {p1 : Pos} {body : List Stmt} {k : ItKind} {I : Addr} {vs : List V} {stay : Mem → Prop} {h₂ : Heap} {tk : Nat} (hb : SSs κ b) (hn : X.ns[i]? = some n0) (htb : trSs X.sc X.ns b body = true) (ty : TryOK b.noTry X) (w : Own X) (c : Cx κ X l σ)
   (newI : σ.s.heap.get? I = none) (keep : ∀ b o, σ.s.heap.get? b = some o → h₂.get? b = some o) (hst : k.St I 0 h₂) (hstay : stay σ.μ) (hitems : ∀ σ', ToF X σ σ' → Inv κ.base σ'.ρ σ'.μ σ'.s.heap → stay σ'.μ → k.Items σ'.ρ σ'.s.heap vs)
   (h : PostF κ X σ (forL i (xSs κ.Φ b) stay vs l σ.μ) Q E') :
   codeAny κ.M X.A (.forLoop (.Name n0 p1) (.ref I) body [] X.env) (fun r s' => match r with | .ok f => Q f s' | .error e => cameBackBy κ.M X.A X.env E' e s') { σ.s with heap := h₂, toks := tk } := by
 let c₀ : Lp := ⟨κ, X, b, i, n0, I, k, vs, stay, σ, Q, E'⟩
 have bI : κ.base.get? I = none := by
   cases e : κ.base.get? I with
   | none => rfl
   | some x => have := c.I.stays _ _ e; rw [newI] at this; cases this
 have t : To σ ⟨σ.ρ, σ.μ, { σ.s with heap := h₂, toks := tk }⟩ := ⟨.of_keeps keep, rfl, rfl⟩
 exact for_core (c := c₀) (σ' := ⟨σ.ρ, σ.μ, { σ.s with heap := h₂, toks := tk }⟩) ⟨w, hb, ty, hn, newI, bI, c.a.handled, hitems⟩ htb ⟨t.toF, c.step t (c.I.keeps keep), hst, hstay⟩ h
theorem ss_forE {i : Nat} {e : E} {b : Ss} (he : SE κ e) (hb : SSs κ b) : SS κ (.forE i e b) := fun x X l σ Q E' ht ty w c h => by
 refine trs_forE ht fun n0 p1 y0 body p0 h1 h2 h3 h4 => wpAny_For (he y0 X l σ _ E' h2 c (PostF.bind (f := forK i (xSs κ.Φ b) l) h c fun v y σ₁ a r₁ h₁ => PostF.opt (f := forK2 i (xSs κ.Φ b) l v σ₁.μ) h₁ fun vs hvs h₁ =>
   iter_start a.c.I r₁ hvs fun o k hst n1 n2 hitems => ?_)) (fun x => by cases y0 <;> first | rfl | exact ff h3)
 exact for_start (tk := σ₁.s.toks) hb h1 h4 ty w a.c (Heap.get?_none_of_le (Nat.le_refl _)) (push_keeps o) hst (stays_now hvs) (fun σ' t I' hs' => hitems σ'.ρ σ'.μ σ'.s.heap I' (r₁.step t.st) hs') h₁
theorem ss_forR {i : Nat} {e : E} {b : Ss} (he : SE κ e) (hb : SSs κ b) : SS κ (.forR i e b) := fun x X l σ Q E' ht ty w c h => by
 refine trs_forR ht fun n0 p1 p2 y0 p3 body p0 h1 h3 h4 h5 h6 => ?_
 have hs : starEach [y0] X.env = [(false, eval y0 X.env)] := by rw [starEach_cons h4]; rfl
 refine wpAny_For (wpAny_Call_ofName (wpAny_Name (blt_ok c.K c.T c.I h3 c.T.rng.1 c.T.rng.2 ?_) (notDebug h3))) (fun x => rfl)
 rw [hs]
 show wpAny _ X.A (callWith p3 (.type "range") [] ((false, eval y0 X.env) :: []) []) _ E' σ.s
 refine PySem.callWith_type rfl (evalArgs_plain (spliced_cons (he y0 X l σ _ E' h5 c (PostF.bind (f := rngK i (xSs κ.Φ b) l) h c fun v y σ₁ a r₁ h₁ => spliced_nil ?_))))
 cases v with
 | int n =>
   refine r₁.intI fun t => ?_
   have h₁ : PostF κ X σ₁ (if 0 ≤ n ∧ n < 1000000 then forL i (xSs κ.Φ b) (fun _ => True) ((List.range n.toNat).map fun k => V.int (k : Nat)) l σ₁.μ else .bad) Q E' := h₁
   by_cases hnn : 0 ≤ n ∧ n < 1000000
   · rw [if_pos hnn] at h₁
     obtain ⟨N, rfl⟩ := Int.eq_ofNat_of_zero_le hnn.1
     have hN : ((N : Nat) : Int) < 1000000 := hnn.2
     refine call_range_1 (wpAny_pyIter_range (IsRange.new ..) (small_one (by decide) (by decide) (by lia) (by lia)) ?_)
     have hsz : Builtin.Range.rangeSize 0 ((N : Nat) : Int) 1 = (N : Int) := by rw [rangeSize_one]; split <;> lia
     generalize hH1 : σ₁.s.heap.push { cls := .type "range", data := .fields #[.int 0 σ₁.s.toks, .int ((N : Nat) : Int) t, .int 1 (σ₁.s.toks + 1)] } = H1
     have k1 : ∀ b o', σ₁.s.heap.get? b = some o' → H1.get? b = some o' := hH1 ▸ push_keeps _
     have newI : σ₁.s.heap.get? H1.objs.size = none := by
       cases e : σ₁.s.heap.get? H1.objs.size with
       | none => rfl
       | some x => exact absurd (Heap.lt_size (k1 _ _ e)) (Nat.lt_irrefl _)
     refine for_start (tk := σ₁.s.toks + 1 + 1) (k := .range N) (stay := fun _ => True) (vs := (List.range N).map fun k => V.int (k : Nat)) hb h1 h6 ty w a.c newI (fun b o e => Heap.get?_push_of_some _ (k1 b o e)) ?_ trivial (fun _ _ _ _ => rfl) h₁
     have := Heap.get?_push_size H1 (o := { cls := .type "range_iterator", data := .fields #[rawInt 0, rawInt (Builtin.Range.rangeSize 0 (N : Int) 1), rawInt 1] }) rfl
     have e2 : ((N : Int) - ((0 : Nat) : Int)) = Builtin.Range.rangeSize 0 (N : Int) 1 := by rw [hsz]; exact Int.sub_zero _
     show IsRangeIter _ _ (((0 : Nat) : Nat) : Int) ((N : Int) - ((0 : Nat) : Nat)) 1
     rw [e2]
     exact this
   · rw [if_neg hnn] at h₁; exact h₁.elim
 | _ => exact h₁.elim
end
end Mine
end
section
open PySem PySem.W PyProof.Rows PySem.Calls
namespace Mine
section
variable {base : Heap} {ρ : List Addr} {μ : Mem} {env : Env} {ns : List Str} {l : Loc}
structure Slotted (base s0 hr h : Heap) (env : Env) : Prop where
 stays : base.StaysIn h
 keep : ∀ b o, hr.get? b = some o → (∀ es n, o.data ≠ .dict es n) → h.get? b = some o
 old : ∀ b o, s0.get? b = some o → hr.get? b = some o → b ∉ own env → h.get? b = some o
 dict : ∀ b o es n, hr.get? b = some o → o.data = .dict es n → ∃ sl, h.get? b = some { o with slots := sl }
theorem Slotted.step {X ρ ρ' : List Addr} {s0 hr h : Heap} (S : Slotted base s0 hr h env) (st : Step (own env) ρ s0 ρ' hr) : Step (own env) ρ s0 ρ' h := by
 refine ⟨⟨fun b o its n e dd nb => S.keep b o (st.ex.seq b o its n e dd nb) fun es n q => by (rw [dd] at q; cases q), fun b o e n1 n2 => S.old b o e (st.ex.keep b o e n1 n2) n1, fun b o es n e dd => ?_, fun b o e => ?_⟩, st.grows⟩
 · obtain ⟨o', es', n', e', d'⟩ := st.ex.dicts b o es n e dd
   obtain ⟨sl, q⟩ := S.dict b o' es' n' e' d'
   exact ⟨_, es', n', q, d'⟩
 · obtain ⟨o', e'⟩ := st.ex.live b o e
   by_cases hd : ∃ es n, o'.data = .dict es n
   · obtain ⟨es, n, hd⟩ := hd
     obtain ⟨sl, q⟩ := S.dict b o' es n e' hd
     exact ⟨_, q⟩
   · exact ⟨o', S.keep b o' e' fun es n q => hd ⟨es, n, q⟩⟩
theorem Slotted.seqs {s0 hr h : Heap} (S : Slotted base s0 hr h env) : ∀ b o its n, hr.get? b = some o → o.data = .seq its n → h.get? b = some o := fun b o its n e dd => S.keep b o e fun es n q => by rw [dd] at q; cases q
theorem Slotted.inv {s0 hr h : Heap} (S : Slotted base s0 hr h env) (I : Inv base ρ μ hr) : Inv base ρ μ h := by
 refine ⟨S.stays, I.len, I.nodup, I.fresh, fun i c vs h1 h2 => ?_⟩
 obtain ⟨vals, ⟨n, e⟩, h3, h4⟩ := I.cells i c vs h1 h2
 exact ⟨vals, ⟨n, S.seqs _ _ _ _ e rfl⟩, h3, h4.keepSeq S.seqs⟩
theorem Slotted.frm {s0 hr h : Heap} (S : Slotted base s0 hr h env) (F : Frm ns env hr ρ l) : Frm ns env h ρ l := by
 have kc : ∀ {c v}, hr.IsCell c v → h.IsCell c v := fun {c v} ⟨x, e, dd⟩ => ⟨x, S.keep c x e fun es n q => by (rw [dd] at q; cases q), dd⟩
 obtain ⟨hl, ⟨m, ⟨x, es, ep, hx, hdx, r⟩, hv⟩, hk, hcl⟩ := F
 obtain ⟨sl, hx'⟩ := S.dict _ x es ep hx hdx
 refine ⟨hl, ⟨m, ⟨_, es, ep, hx', hdx, r⟩, fun i n v h1 h2 => ?_⟩, fun n hn => ?_, fun p hp => let ⟨v, q⟩ := hcl p hp; ⟨v, kc q⟩⟩
 · obtain ⟨y, ry, hy⟩ := hv i n v h1 h2
   refine ⟨y, ry.keepSeq S.seqs, ?_⟩
   rcases hy with hy | ⟨q, c, h3, h4⟩
   · exact .inl hy
   · exact .inr ⟨q, c, h3, kc h4⟩
 · rcases hk n hn with q | ⟨q, c, v, h3, h4⟩
   · exact .inl q
   · exact .inr ⟨q, c, v, h3, kc h4⟩
theorem slotted_of {B hr h h0 : Heap} {fs : List Addr} (hB : base.StaysIn B) (h1 : ∀ a ∈ fs, a ∈ [env].filterMap (·.frame) ∨ h0.get? a = none) (h2 : ∀ a ∈ fs, ∃ o es n, hr.get? a = some o ∧ o.data = .dict es n)
   (h3 : ∀ b o, hr.get? b = some o → b ∉ fs → B.get? b = some o) (hf : env.frame = some env.locals) (up : hr.UpToSlots h) (st : B.StaysIn h) : Slotted base h0 hr h env := by
 have notFs : ∀ b o, hr.get? b = some o → (∀ es n, o.data ≠ .dict es n) → b ∉ fs := fun b o e hn hm => by
   obtain ⟨o', es, n, e', d'⟩ := h2 b hm
   rw [e] at e'; cases e'; exact hn _ _ d'
 refine ⟨fun b o e => st b o (hB b o e), fun b o e hn => st b o (h3 b o e (notFs b o e hn)), fun b o e0 e hb => st b o (h3 b o e fun hm => ?_), fun b o es n e hd => ?_⟩
 · rcases h1 b hm with q | q
   · simp only [List.filterMap_cons, hf, List.filterMap_nil, List.mem_singleton] at q
     exact hb (q ▸ .head _)
   · rw [e0] at q; cases q
 · obtain ⟨sl, q⟩ := up b o e fun vs q => by (rw [hd] at q; cases q)
   exact ⟨sl, q⟩
end
section
variable {κ : Kn} {X : Ct} {l : Loc} {σ : Sg} {Q : QF} {E' : QV}
theorem callWith_class {pos : Pos} {A : Around} {s : Shared} {args : List (Bool × Sem Value)} {Q : Value → Shared → Prop} {E : Value → Shared → Prop} (T : Top κ.prog κ.w κ.base κ.mg κ.mb κ.C) (hplain : args.any (·.1) = false)
   (h : wpAny κ.M A (evalArgs (.ref κ.C) true args []) (fun a s₁ => κ.base.StaysIn s₁.heap ∧ wpAny κ.M A (call (.ref κ.C) a.pos a.kw) Q E s₁) E s) :
   wpAny κ.M A (callWith pos (.ref κ.C) [] args []) Q E s := by
 unfold callWith
 refine wpAny_bind (wpAny_holding (wpAny_mono h (fun a s₁ h₁ => wpAny_bind (wpAny_standAt ?_)) fun _ _ x => x))
 simp only [hplain, List.any_nil, Bool.or_false]
 refine wpAny_bind (T.keeper A E s₁ _ h₁.1 ?_)
 exact wpAny_bind (wpAny_mono h₁.2 (fun r s₂ hr => wpAny_bind (wpAny_holding (wpAny_point (wpAny_pure hr)))) fun _ _ x => x)
theorem isStr_inv {P : E → Prop} {e : E} (h : e.isStr = true) (k : ∀ i, P (.str i)) : P e := by cases e <;> first | exact k _ | exact ff h
theorem ss_raise {e : E} (he : SE κ e) : SS κ (.raise e) := fun x X l σ Q E' ht ty w c h => by
 refine trs_raise ht fun p1 y0 kk p2 p3 p0 h2 h3 h4 _ => ?_
 rw [arm_exec_Raise]
 refine wpAny_bind (wpAny_standAt ?_)
 show wpAny _ X.A (raiseStmt X.env (some (do let v ← eval (.Call (.Name "SyntaxDie" p1) [y0, .Constant (.int 0) kk p2] [] p3) X.env; standAt p0; pure v)) none) Q E' σ.s
 unfold raiseStmt
 have hs : starEach [y0, .Constant (.int 0) kk p2] X.env = [(false, eval y0 X.env), (false, eval (.Constant (.int 0) kk p2) X.env)] := by rw [starEach_cons h3]; rfl
 refine wpAny_bind (wpAny_bind (wpAny_Call_ofName (wpAny_Name (glob_ok c.K c.T c.I h2 c.T.die ?_) (notDebug h2))))
 rw [hs]
 show wpAny _ X.A (callWith p3 (.ref κ.C) [] ((false, eval y0 X.env) :: [(false, eval (.Constant (.int 0) kk p2) X.env)]) []) _ E' σ.s
 refine callWith_class c.T rfl (evalArgs_plain (spliced_cons (he y0 X l σ _ E' h4 c (PostF.bind (f := raK l) h c fun v y σ₁ a r₁ h₁ => ?_))))
 cases v with
 | str t =>
   refine r₁.strI fun tk _ _ => spliced_cons (wpAny_Constant_int (spliced_nil ⟨a.c.I.stays, ?_⟩))
   have hun := c.a.units
   have hde := c.a.depth
   refine c.T.made X.A E' _ _ _ _ _ c.a.handled (by lia) (by lia) a.c.I.stays fun e s₂ keep new hx sm₂ => ?_
   refine wpAny_bind (wpAny_standAt (wpAny_pure (wpAny_bind (wpAny_pure (c.T.tail X.A E' s₂ Q e c.a.handled (fun b o q => keep b o (a.c.I.stays b o q)) hx ?_)))))
   obtain ⟨oe, vs, a0, x1, x2, x3, x4, x5⟩ := hx
   exact h₁ e σ₁.ρ σ₁.s.heap s₂ ⟨Step.refl .., a.c.I, a.c.F, .inl ⟨oe, vs, a0, keep, new, x1, x2, x3, x4, x5, a.c.a.frs⟩, sm₂.gens, sm₂.os⟩
 | _ => exact h₁.elim
@[elab_as_elim] theorem leaf_inv {e : E} {P : Expr → Prop} {x : Expr} (hleaf : (e.isLoc || e.isStr) = true) (ht : trE X.sc X.ns e x = true)
   (kl : ∀ i n p, e = .loc i → X.ns[i]? = some n → (n == ("__debug__" : Str)) = false → (n == ("__classdict__" : Str)) = false → P (.Name n p))
   (ks : ∀ s kk p, e = .str s → s.length ≤ 1000 → (s.all (· < 1114112)) = true → P (.Constant (.str ⟨s.toArray⟩) kk p)) : P x := by
 cases hl : e.isLoc with
 | true =>
   revert ht kl
   exact isLoc_inv (P := fun e => trE X.sc X.ns e x = true → (∀ i n p, e = .loc i → X.ns[i]? = some n → (n == ("__debug__" : Str)) = false → (n == ("__classdict__" : Str)) = false → P (.Name n p)) → P x) hl fun i ht kl => tr_loc ht fun n p h1 h2 h3 => kl i n p rfl h1 (nt h2) (nt h3)
 | false =>
   rw [hl] at hleaf
   revert ht ks
   exact isStr_inv (P := fun e => trE X.sc X.ns e x = true → (∀ s kk p, e = .str s → s.length ≤ 1000 → (s.all (· < 1114112)) = true → P (.Constant (.str ⟨s.toArray⟩) kk p)) → P x) hleaf fun s ht ks => tr_str ht fun kk p h1 h2 => ks s kk p rfl h1 h2
theorem leaf_put {A' : Around} {e : E} {x : Expr} {v : V} {μ' : Mem} {i : Nat} {n : Str} {p p' : Pos} (hleaf : (e.isLoc || e.isStr) = true) (hv : xE κ.Φ e l σ.μ = .ok v μ') (ht : trE X.sc X.ns e x = true) (w : Own X) (K : EnvOK κ.base X.sc X.ns X.env) (F : Frm X.ns X.env σ.s.heap σ.ρ l) (I : Inv κ.base σ.ρ σ.μ σ.s.heap)
   (hn : X.ns[i]? = some n) (hQ : ∀ s', AftF κ X (l.set i (some v)) μ' σ ⟨σ.ρ, μ', s'⟩ → Q .next s') : wpAny κ.M A' (exec (.Assign [.Name n p] x p') X.env) Q E' σ.s := by
 have store : ∀ {y : Value} {k : Nat}, μ' = σ.μ → Is σ v y → wpAny κ.M A' (storeName X.env n y) (fun _ s => Q .next s) E' { σ.s with toks := k } := fun {y k} e r => by
   subst e
   exact store_ok K (s := { σ.s with toks := k }) F I hn (w.nf _ (List.mem_of_getElem? hn)) r fun s₅ st₅ I₅ F₅ sm₅ => hQ s₅ ⟨⟨st₅, sm₅.gens, sm₅.os⟩, I₅, F₅⟩
 refine leaf_inv hleaf ht (fun j m q ej h1 h2 h3 => ?_) fun s kk q es h1 h2 => ?_
 · subst ej
   rw [e_loc] at hv
   cases hj : (l[j]?).join with
   | none => rw [hj] at hv; exact nob hv
   | some u =>
     rw [hj] at hv
     obtain ⟨e1, e2⟩ := O.ok.inj (show O.ok u σ.μ = .ok v μ' from hv)
     obtain ⟨y, ry, hy⟩ := loc_ok (prog := κ.prog) (w := κ.w) (A := A') (E := E') K F h1 hj
     exact wpAny_Assign_Name (wpAny_Name (hy _ (store (k := σ.s.toks) e2.symm (e1 ▸ ry)) h3) h2) rfl
 · subst es
   obtain ⟨e1, e2⟩ := O.ok.inj (show O.ok (V.str s) σ.μ = .ok v μ' from hv)
   exact wpAny_Assign_Name (wpAny_mkText (store e2.symm (e1 ▸ .str _ _ (Nat.le_trans h1 (by decide)) fun a q => of_decide_eq_true (List.all_eq_true.mp h2 a q)))) rfl
theorem AftX.slotted {l₁ : Loc} {μ₁ : Mem} {ex : Addr} {ρ₁ : List Addr} {hr : Heap} {s₁ s₂ : Shared} (a : AftX κ X l₁ μ₁ σ ex ρ₁ hr s₁) (S : Slotted κ.base σ.s.heap hr s₂.heap X.env) (sm : Same σ.s s₂) : AftF κ X l₁ μ₁ σ ⟨ρ₁, μ₁, s₂⟩ :=
 ⟨⟨S.step (X := []) a.st, sm⟩, S.inv a.I, S.frm a.F⟩
theorem ss_try {b : Ss} {i : Nat} {e : E} (hb : SSs κ b) : SS κ (.tryS b i e) := fun x X l σ Q E' ht ty w c h => by
 refine trs_tryS ht fun p p1 t0 p2 v0 p3 p4 p5 h2 h3 h4 h5 h6 => ?_
 rcases ty with ty | ⟨ho, hfr⟩
 · exact ff ty
 refine wpAny_Try_except (hb p X l σ _ _ h3 (.inr ⟨ho, hfr⟩) w c ?_)
 rw [s_try] at h
 cases hbd : xSs κ.Φ b l σ.μ with
 | next l₁ μ₁ => rw [hbd] at h; exact fun σ₁ a => wpAny_execs_nil (h σ₁ a)
 | exc l₁ μ₁ =>
   rw [hbd] at h
   have h : PostF κ X σ (tryK2 i l₁ (xE κ.Φ e l₁ μ₁)) Q E' := h
   cases hv : xE κ.Φ e l₁ μ₁ with
   | ok v μ₂ =>
     rw [hv] at h
     intro ex ρ₁ hr s₁ a
     have x := a.x
     rw [ho] at x
     refine note_exc hfr (c.a.frames.trans (congrArg some ho)) a.I.stays x fun h' B fs a0 b1 b2 b3 up hh => wpAny_landsW hh fun h'' hfl up2 => ?_
     have upA : hr.UpToSlots h'' := up.trans up2
     have A₂ := a.slotted (s₂ := { s₁ with heap := h'' }) (slotted_of b1 b2.1 b2.2 b3 hfr upA hfl.1) ⟨a.sm.gens, a.sm.os⟩
     obtain ⟨oe, ho', hcls⟩ := hfl.there
     refine wpAny_handleBy_cons (codeAny_handlers_test (wpAny_Name (glob_ok c.K c.T (s := { s₁ with heap := h'' }) A₂.I h2 c.T.die ?_) (notDebug h2))) (fun q => nomatch q)
     refine c.T.caught _ _ { s₁ with heap := h'' } _ ex oe A₂.I.stays ho' hcls (codeAny_handlers_suite ?_)
     refine lands_againW (s := { s₁ with heap := h'' }) hfl fun h3' hfl3 up3 => ?_
     have A₃ := a.slotted (s₂ := { s₁ with heap := h3' }) (slotted_of b1 b2.1 b2.2 b3 hfr (upA.trans up3) hfl3.1) ⟨a.sm.gens, a.sm.os⟩
     exact wpAny_execs_cons (leaf_put (σ := ⟨ρ₁, μ₁, { s₁ with heap := h3' }⟩) h6 hv h5 w c.K A₃.F A₃.I h4 fun s₅ a₅ => wpAny_execs_nil (h ⟨ρ₁, μ₂, s₅⟩ ⟨A₃.t.trans ⟨a₅.t.st, a₅.t.sm⟩, a₅.I, a₅.F⟩))
   | _ => rw [hv] at h; exact h.elim
 | bad => rw [hbd] at h; exact h.elim
 | _ => rw [hbd] at h; exact h
end
end Mine
end
section
open PySem PySem.W PyProof.Rows PySem.Calls
namespace Mine
section
variable {κ : Kn}
theorem okS (hE : ∀ e, OkE κ e) (st : S) : SS κ st := @S.rec (SS κ) (SSs κ)
 (fun i e => ss_assign (hE e).s) (fun is e => ss_assignT (hE e).s) (fun a i e => ss_setIdx (hE a).s (hE i).s (hE e).s) (fun i op e => ss_aug (hE e).s) (fun e => ss_expr (hE e).s) (fun a e => ss_append (hE a).s (hE e).s)
 (fun c a b ha hb => ss_ite (hE c).t ha hb) (fun c b hb => ss_whl (hE c).t hb) (fun i it b hb => ss_forE (hE it).s hb) (fun i n b hb => ss_forR (hE n).s hb) ss_brk ss_cont (fun e => ss_ret (hE e).s) (fun e => ss_raise (hE e).s) (fun b i e hb => ss_try hb)
 sss_nil (fun s ss h1 h2 => sss_cons h1 h2) st
theorem okSs (hE : ∀ e, OkE κ e) (ss : Ss) : SSs κ ss := @Ss.rec (fun _ => True) (SSs κ)
 (fun _ _ => trivial) (fun _ _ => trivial) (fun _ _ _ => trivial) (fun _ _ _ => trivial) (fun _ => trivial) (fun _ _ => trivial) (fun _ _ _ _ _ => trivial) (fun _ _ _ => trivial) (fun _ _ _ _ => trivial) (fun _ _ _ _ => trivial) trivial trivial (fun _ => trivial) (fun _ => trivial) (fun _ _ _ _ => trivial)
 sss_nil (fun s ss _ h2 => sss_cons (okS hE s) h2) ss
theorem zip_mem {ns : List Str} {xs : List Value} : ((ns.zip xs).map (·.1)).Sublist ns := by
 induction ns generalizing xs with
 | nil => exact .slnil
 | cons a r ih => cases xs with
   | nil => exact List.nil_sublist _
   | cons y t => exact ih.cons₂ a
theorem lookup_rev {n : Str} {x : Value} (ps : List (Str × Value)) (hnd : (ps.map (·.1)).Nodup) (hm : (n, x) ∈ ps) : ps.reverse.lookup n = some x := by
 induction ps with
 | nil => cases hm
 | cons p r ih =>
   rw [List.map_cons, List.nodup_cons] at hnd
   rw [List.reverse_cons, List.lookup_append]
   rcases List.mem_cons.mp hm with hpe | hm
   · subst hpe
     have : r.reverse.lookup n = none := by
       cases e : r.reverse.lookup n with
       | none => rfl
       | some y => exact absurd (List.mem_map.mpr ⟨(n, y), List.mem_reverse.mp (mem_of_lookup e), rfl⟩) hnd.1
     rw [this, List.lookup_cons, beq_self_eq_true]; rfl
   · rw [ih hnd.2 hm]; rfl
theorem zip_lookup {ns : List Str} (hnd : ns.Nodup) {xs : List Value} {i : Nat} {n : Str} {x : Value} (h1 : ns[i]? = some n) (h2 : xs[i]? = some x) : (ns.zip xs).reverse.lookup n = some x :=
 lookup_rev _ (hnd.sublist zip_mem) (List.mem_of_getElem? (i := i) (by rw [List.getElem?_zip_eq_some]; exact ⟨h1, h2⟩))
theorem locs0_len {fn : Fn} {vs : List V} (hl : vs.length = fn.np) (hn : fn.np ≤ fn.names.length) : (locs0 fn vs).length = fn.ns.length := by
 unfold locs0 Fn.ns
 rw [List.length_append, List.length_map, List.length_replicate, List.length_map, hl]; exact Nat.add_sub_cancel' hn
theorem locs0_get {fn : Fn} {vs : List V} {i : Nat} {v : V} (h : (locs0 fn vs)[i]? = some (some v)) : vs[i]? = some v := by
 unfold locs0 at h
 by_cases hi : i < vs.length
 · rw [List.getElem?_append_left (by rw [List.length_map]; exact hi), List.getElem?_map] at h
   exact mapI (P := fun c => c = some v → vs[i]? = some v) h (fun a e q => by cases q; exact e) rfl
 · rw [List.getElem?_append_right (by rw [List.length_map]; exact Nat.le_of_not_lt hi)] at h
   have := List.eq_of_mem_replicate (List.mem_of_getElem? h)
   cases this
theorem fin_post {X X₀ : Ct} {σ σ₀ : Sg} {r : F} {Q E' : QV} {QL : QF} {E₂ : QV} (h : PostE κ X₀ σ₀ (finK r) Q E')
   (kn : ∀ σ' μ', (∃ l, AftF κ X l μ' σ σ') → PostE κ X₀ σ₀ (.ok .none μ') Q E' → QL .next σ'.s) (kr : ∀ v x σ' μ', ToF X σ σ' → Inv κ.base σ'.ρ μ' σ'.s.heap → Is σ' v x → PostE κ X₀ σ₀ (.ok v μ') Q E' → QL (.ret x) σ'.s)
   (kx : ∀ μ' e ρ' hr s', (∃ l, AftX κ X l μ' σ e ρ' hr s') → PostE κ X₀ σ₀ (.exc μ') Q E' → E₂ (.ref e) s') : PostF κ X σ r QL E₂ := by
 cases r with
 | next l μ => exact fun σ' a => kn σ' μ ⟨l, a⟩ h
 | ret v μ => exact fun x σ' t I r => kr v x σ' μ t I r h
 | exc l μ => exact fun e ρ' hr s' a => kx μ e ρ' hr s' ⟨l, a⟩ h
 | _ => exact h.elim
theorem sound_step (T : Top κ.prog κ.w κ.base κ.mg κ.mb κ.C) (hnt : ∀ (f : Nat) (fn : Fn), fnTab[f]? = some fn → fn.body.noTry = true) (hΦ : SoundΦ κ) :
   SoundΦ { κ with d := κ.d + 1, Φ := fun f vs μ => match fnTab[f]? with | some fn => runFn κ.Φ fn vs μ | Option.none => .bad } := fun f fn a vs xs X₀ σ₀ Q E' hf hm ha I r h => by
 have h : PostE κ X₀ σ₀ (match fnTab[f]? with | some fn => runFn κ.Φ fn vs σ₀.μ | Option.none => .bad) Q E' := h
 rw [hf] at h
 have h : PostE κ X₀ σ₀ (runFn κ.Φ fn vs σ₀.μ) Q E' := h
 obtain ⟨a', fd, body, hm', Y⟩ := T.fns f fn hf
 obtain rfl : a = a' := by rw [show κ.mg (Str.ofString fn.name) = some (.ref a) from hm] at hm'; cases hm'; rfl
 unfold runFn at h
 by_cases hlen : vs.length = fn.np
 case neg => rw [if_neg hlen] at h; exact h.elim
 rw [if_pos hlen] at h
 have hxl : xs.length = fn.np := r.length ▸ hlen
 obtain ⟨o, ho, hd⟩ := Y.at_
 have hrl : recursionLimit = 1000 := by decide +kernel
 have hdep : X₀.A.depth + (κ.d + 1) ≤ 900 := ha.depth
 have huni : X₀.A.units + 3 * (κ.d + 1) ≤ 9000 := ha.units
 have I : Inv κ.base σ₀.ρ σ₀.μ σ₀.s.heap := I
 refine wpAny_call (codeAny_call_def (by lia) (I.stays _ _ ho) hd (T.nolim.keeps fun b o e => I.stays b o e) (Y.code.keeps fun b o e => I.stays b o e) Y.isBody (.of_eq (Y.bind xs hxl)) Y.cell (fun p hp => Y.locs _ (List.mem_of_mem_take (List.of_mem_zip (a := p.1) (b := p.2) hp).1)) (fun h₀ hns keep => ?_) Y.co Y.gen Y.kind)
 generalize hL : σ₀.s.heap.objs.size = L at *
 have newL : σ₀.s.heap.get? L = none := Heap.get?_none_of_le (by rw [← hL]; exact Nat.le_refl _)
 have baseL : κ.base.get? L = none := by
   cases e : κ.base.get? L with
   | none => rfl
   | some x => have := I.stays _ _ e; rw [newL] at this; cases this
 have hcells : (callEnv fd L a).cells = [] := Y.clo
 have hown : own (callEnv fd L a) = [L] := by unfold own; rw [hcells]; rfl
 let X : Ct := ⟨X₀.A.deeper (callEnv fd L a), callEnv fd L a :: X₀.outer, callEnv fd L a, fd.scope, fn.ns⟩
 let σ : Sg := ⟨σ₀.ρ, σ₀.μ, { σ₀.s with heap := h₀, toks := σ₀.s.toks + ((fn.ns.take fn.np).zip xs).length }⟩
 have K : EnvOK κ.base fd.scope fn.ns (callEnv fd L a) :=
   { kind := Y.kind, glob := Y.glob, blt := Y.blt, gl := fun n q => q, ce := fun n q => q, nodup := Y.nodup, newL := baseL
     newC := fun p hp => (by rw [hcells] at hp; cases hp)
     apart := fun n n' c q => (by rw [hcells] at q; cases q)
     frame := ⟨L, rfl⟩
     plain := by unfold interactive; rw [show (callEnv fd L a).scope.kind = .function from Y.kind]; rfl }
 have st0 : Step [] σ₀.ρ σ₀.s.heap σ₀.ρ h₀ := .of_keeps keep
 have I0 := I.keeps keep
 have Fm : Frm fn.ns (callEnv fd L a) h₀ σ₀.ρ (locs0 fn vs) := by
   refine ⟨locs0_len hlen Y.np, ⟨_, hns, fun i n v h1 h2 => ?_⟩, fun n hn => .inl (Y.locs n hn), fun p hp => by rw [hcells] at hp; cases hp⟩
   have hv := locs0_get h2
   obtain ⟨x, hx, rx⟩ := r.get hv
   refine ⟨x, rx.step st0, .inl ⟨Y.locs n (List.mem_of_getElem? h1), zip_lookup (Y.nodup.sublist (List.take_sublist ..)) (i := i) ?_ hx⟩⟩
   rw [List.getElem?_take, if_pos (hlen ▸ (List.getElem?_eq_some_iff.mp hv).1)]; exact h1
 have hA : Aok X.A κ.base h₀ X.outer κ.d := by
   refine ⟨ha.handled, by show X₀.A.frames.map _ = _; rw [ha.frames]; rfl, by show X₀.A.depth + 1 + κ.d ≤ 900; lia, by show X₀.A.units + 3 + 3 * κ.d ≤ 9000; lia, fun e he => ?_⟩
   rcases List.mem_cons.mp he with rfl | he
   · obtain ⟨o', es, ep, q1, q2, _⟩ := hns
     exact ⟨by rw [show (callEnv fd L a).scope.kind = .function from Y.kind]; exact (fun q => (nomatch q)), L, o', es, ep, rfl, baseL, q1, q2⟩
   · exact (ha.frs.step st0) e he
 have down : ∀ {ρ' : List Addr} {h' : Heap}, Step (own (callEnv fd L a)) σ₀.ρ h₀ ρ' h' → Step [] σ₀.ρ σ₀.s.heap ρ' h' := fun {ρ' h'} st => ((st0.mono (fun a q => nomatch q)).trans (hown ▸ st : Step [L] σ₀.ρ h₀ ρ' h')).dropNew newL
 refine okSs (okE hΦ) fn.body _ X (locs0 fn vs) σ _ _ Y.tr (.inl (hnt f fn hf)) ⟨⟨_, rfl⟩, fun n hn q => by rw [show (callEnv fd L a).kindOf n = _ from Y.locs n hn] at q; cases q⟩ ⟨T, K, Fm, hA, I0⟩ (fin_post h (fun σ' μ' a q => ?_) (fun v x σ' μ' t I' rx q => ?_) fun μ' e ρ' hr s' a q => ?_)
 · obtain ⟨l, a⟩ := a
   exact q .none σ'.ρ σ'.s (down a.t.st) a.I .none ⟨a.t.sm.gens, a.t.sm.os⟩
 · exact q x σ'.ρ σ'.s (down t.st) I' rx ⟨t.sm.gens, t.sm.os⟩
 · obtain ⟨l, a⟩ := a
   exact leave_exc (h := h₀) (h₀ := σ₀.s.heap) (L := L) rfl hA.frames a.I.stays a.x newL st0.ex.live fun h' x' => q e ρ' hr { s' with heap := h' } (down a.st) a.I x' ⟨a.sm.gens, a.sm.os⟩
noncomputable def Kn.at (κ : Kn) (d : Nat) : Kn := { κ with d := d, Φ := evCall fnTab d }
theorem sound_all (T : Top κ.prog κ.w κ.base κ.mg κ.mb κ.C) (hnt : ∀ (f : Nat) (fn : Fn), fnTab[f]? = some fn → fn.body.noTry = true) (d : Nat) : SoundΦ (κ.at d) := by
 induction d with
 | zero => exact fun f fn a vs xs X σ Q E' hf hm ha I r h => h.elim
 | succ d ih => exact sound_step (κ := κ.at d) T hnt ih
theorem noTry_all : ∀ (f : Nat) (fn : Fn), fnTab[f]? = some fn → fn.body.noTry = true := fun f fn h => by
 have : fnTab.all (fun fn => fn.body.noTry) = true := by decide +kernel
 exact List.all_eq_true.mp this fn (List.mem_of_getElem? h)
end
end Mine
end
section
open PySem PySem.W PyProof.Rows PySem.Calls
namespace Mine
structure LawAt (prog : Program) (w : World) (h : Heap) (fn : Fn) (cn pn : Str) (a : Addr) (fd : FuncData) (body : List Stmt) : Prop where
 at_ : ∃ o, h.get? a = some o ∧ o.data = .func fd
 isBody : fd.body = .stmts body
 code : h.CodeRec fd.code fd.qualname
 clo : fd.closure = []
 glob : fd.globals = mainGlobals
 blt : fd.builtins = builtinsNs
 co : fd.scope.isCoroutine = false
 gen : fd.scope.isGenerator = false
 kind : fd.scope.kind = .function
 np : fn.np = 1
 pos : 0 < fn.names.length
 par : fn.ns[0]? = some pn
 bind : ∀ v : Value, bindArgs fd ⟨[v], []⟩ = pure [(pn, v)]
 tr : trSs fd.scope fn.ns fn.body body = true
 cells : ∀ n, cellsFrom n fd.scope.names [] = [(cn, n)]
 kinds : ∀ n ∈ fn.ns, fd.scope.names.lookup n = some .local ∨ (fd.scope.names.lookup n = some .cell ∧ n = cn)
 parL : fd.scope.names.lookup pn = some .local
 nodup : fn.ns.Nodup
theorem lookup_one {cn n : Str} {x c : Addr} (q : [(cn, x)].lookup n = some c) : n = cn := by
 by_cases h : n = cn
 · exact h
 · rw [List.lookup_cons, beq_false_of_ne h] at q; cases q
section
variable {κ : Kn}
theorem law_run (T : Top κ.prog κ.w κ.base κ.mg κ.mb κ.C) {fn : Fn} {cn pn : Str} {a : Addr} {fd : FuncData} {body : List Stmt} (Y : LawAt κ.prog κ.w κ.base fn cn pn a fd body) {A : Around} {s : Shared} {ρ : List Addr} {μ μ' : Mem} {v v' : V} {xv : Value} {Q E' : QV}
   (ha : Aok A κ.base s.heap [] (κ.d + 1)) (I : Inv κ.base ρ μ s.heap) (r : Rel ρ s.heap v xv) (hr : runFn (evCall fnTab κ.d) fn [v] μ = .ok v' μ')
   (hQ : ∀ x ρ' s', Step [] ρ s.heap ρ' s'.heap → Inv κ.base ρ' μ' s'.heap → Rel ρ' s'.heap v' x → Same s s' → Q x s') : wpAny κ.M A (call (.ref a) [xv]) Q E' s := by
 have hΦ := sound_all T noTry_all κ.d
 unfold runFn at hr
 rw [if_pos (by rw [Y.np]; rfl)] at hr
 obtain ⟨o, ho, hd⟩ := Y.at_
 have hrl : recursionLimit = 1000 := by decide +kernel
 have hdep := ha.depth
 have huni := ha.units
 refine wpAny_call (codeAny_call_cells (by lia) (I.stays _ _ ho) hd (T.nolim.keeps fun b o e => I.stays b o e) (Y.code.keeps fun b o e => I.stays b o e) Y.isBody (Y.bind xv) Y.clo (fun p hp => by
   rw [List.mem_singleton.mp hp]; exact .inl Y.parL) (fun s₁ x => ?_) Y.co Y.gen Y.kind)
 generalize hL : s.heap.objs.size = L at *
 have newL : s.heap.get? L = none := Heap.get?_none_of_le (by rw [← hL]; exact Nat.le_refl _)
 have newC : s.heap.get? (L + 1) = none := Heap.get?_none_of_le (by rw [← hL]; exact Nat.le_succ _)
 have bn : ∀ {c}, s.heap.get? c = none → κ.base.get? c = none := fun {c} q => by
   cases e : κ.base.get? c with
   | none => rfl
   | some x => have := I.stays _ _ e; rw [q] at this; cases this
 have hcells : (callEnvC fd L a).cells = [(cn, L + 1)] := Y.cells (L + 1)
 have hown : own (callEnvC fd L a) = [L, L + 1] := by unfold own; rw [hcells]; rfl
 have hcl : (callEnvC fd L a).cells.lookup cn = some (L + 1) := by rw [hcells, List.lookup_cons, beq_self_eq_true]
 let X : Ct := ⟨A.deeper (callEnvC fd L a), [callEnvC fd L a], callEnvC fd L a, fd.scope, fn.ns⟩
 have K : EnvOK κ.base fd.scope fn.ns (callEnvC fd L a) :=
   { kind := Y.kind, glob := Y.glob, blt := Y.blt, gl := fun n q => q, ce := fun n q => q, nodup := Y.nodup, newL := bn newL
     newC := fun p hp => (by rw [hcells] at hp; rw [List.mem_singleton.mp hp]; exact bn newC)
     apart := fun n n' c q q' => (by
       rw [hcells] at q q'
       exact (lookup_one q).trans (lookup_one q').symm)
     frame := ⟨L, rfl⟩
     plain := by unfold interactive; rw [show (callEnvC fd L a).scope.kind = .function from Y.kind]; rfl }
 have keep := x.toInCall.keep
 have st0 : Step [] ρ s.heap ρ s₁.heap := .of_keeps keep
 obtain ⟨h₁, tk₁, hs₁⟩ := x.toInCall.same
 have sm1 : Same s s₁ := by rw [hs₁]; exact ⟨rfl, rfl⟩
 have hcell : s₁.heap.IsCell (L + 1) (bindC (callEnvC fd L a).kindOf [(pn, xv)] (fun _ => none) cn) := x.cell cn (L + 1) hcl
 have hkp : (callEnvC fd L a).kindOf pn = some .local := Y.parL
 have Fm : Frm fn.ns (callEnvC fd L a) s₁.heap ρ (locs0 fn [v]) := by
   refine ⟨locs0_len Y.np.symm (by rw [Y.np]; exact Y.pos), ⟨_, x.toInCall.ns, fun i n u h1 h2 => ?_⟩, fun n hn => ?_, fun p hp => ?_⟩
   · have hu := locs0_get h2
     cases i with
     | zero =>
       rw [Y.par] at h1; cases h1; cases hu
       exact ⟨xv, r.step st0, .inl ⟨hkp, by show bindL (callEnvC fd L a).kindOf [(pn, xv)] (fun _ => none) pn = some xv; simp [bindL, hkp]⟩⟩
     | succ i => cases hu
   · rcases Y.kinds n hn with q | ⟨q, rfl⟩
     · exact .inl q
     · exact .inr ⟨.inl q, L + 1, _, hcl, hcell⟩
   · rw [hcells] at hp; rw [List.mem_singleton.mp hp]; exact ⟨_, hcell⟩
 have hA : Aok X.A κ.base s₁.heap X.outer κ.d := by
   refine ⟨ha.handled, by show A.frames.map _ = _; rw [ha.frames]; rfl, by show A.depth + 1 + κ.d ≤ 900; lia, by show A.units + 3 + 3 * κ.d ≤ 9000; lia, fun e he => ?_⟩
   rw [List.mem_singleton.mp he]
   obtain ⟨o', es, ep, q1, q2, _⟩ := x.toInCall.ns
   exact ⟨by rw [show (callEnvC fd L a).scope.kind = .function from Y.kind]; exact (fun q => (nomatch q)), L, o', es, ep, rfl, bn newL, q1, q2⟩
 have down : ∀ {ρ' : List Addr} {h' : Heap}, Step (own (callEnvC fd L a)) ρ s₁.heap ρ' h' → Step [] ρ s.heap ρ' h' := fun {ρ' h'} st =>
   (((st0.mono (fun a q => nomatch q)).trans (hown ▸ st : Step [L, L + 1] ρ s₁.heap ρ' h')).dropNew newL).dropNew newC
 refine okSs (okE hΦ) fn.body _ X (locs0 fn [v]) ⟨ρ, μ, s₁⟩ _ _ Y.tr (.inr ⟨rfl, rfl⟩) ⟨⟨_, rfl⟩, fun n hn q => by
   rcases Y.kinds n hn with q' | ⟨q', _⟩ <;> rw [show (callEnvC fd L a).kindOf n = _ from q'] at q <;> cases q⟩ ⟨T, K, Fm, hA, I.keeps keep⟩ ?_
 show PostF (κ.at κ.d) X ⟨ρ, μ, s₁⟩ (xSs (evCall fnTab κ.d) fn.body (locs0 fn [v]) μ) _ _
 generalize xSs (evCall fnTab κ.d) fn.body (locs0 fn [v]) μ = r at hr
 cases r with
 | next l₁ μ₁ => obtain ⟨rfl, rfl⟩ := O.ok.inj hr; exact fun σ' a => hQ .none σ'.ρ σ'.s (down a.t.st) a.I .none (sm1.trans a.t.sm)
 | ret u μ₁ => obtain ⟨rfl, rfl⟩ := O.ok.inj hr; exact fun y σ' t I' ry => hQ y σ'.ρ σ'.s (down t.st) I' ry (sm1.trans t.sm)
 | exc => exact noe hr
 | _ => exact nob hr
end
end Mine
end
section
open PySem PySem.W PyProof.Rows PySem.Calls
namespace Mine
noncomputable def vFunc (x : Data) (f : FuncData → Bool) : Bool := if h : x.ctorIdx = 7 then Data.func.elim x h f else false
theorem vFunc_eq {x : Data} {f : FuncData → Bool} (h : vFunc x f = true) : ∃ fd, x = .func fd ∧ f fd = true :=
 dt h fun q h => Data.func.elim (motive := fun x => ∀ q : x.ctorIdx = 7, Data.func.elim x q f = true → ∃ fd, x = .func fd ∧ f fd = true) x q (fun fd _ h => ⟨fd, rfl, h⟩) q h
noncomputable def vSeq (x : Data) (f : Array Value → Bool) : Bool := if h : x.ctorIdx = 2 then Data.seq.elim x h (fun a _ => f a) else false
theorem vSeq_eq {x : Data} {f : Array Value → Bool} (h : vSeq x f = true) : ∃ a n, x = .seq a n ∧ f a = true :=
 dt h fun q h => Data.seq.elim (motive := fun x => ∀ q : x.ctorIdx = 2, Data.seq.elim x q (fun a _ => f a) = true → ∃ a n, x = .seq a n ∧ f a = true) x q (fun a n _ h => ⟨a, n, rfl, h⟩) q h
noncomputable def vDict (x : Data) (f : Array DictEntry → Bool) : Bool := if h : x.ctorIdx = 3 then Data.dict.elim x h (fun a _ => f a) else false
theorem vDict_eq {x : Data} {f : Array DictEntry → Bool} (h : vDict x f = true) : ∃ a n, x = .dict a n ∧ f a = true :=
 dt h fun q h => Data.dict.elim (motive := fun x => ∀ q : x.ctorIdx = 3, Data.dict.elim x q (fun a _ => f a) = true → ∃ a n, x = .dict a n ∧ f a = true) x q (fun a n _ h => ⟨a, n, rfl, h⟩) q h
noncomputable def vCls (x : Data) (f : ClassData → Bool) : Bool := if h : x.ctorIdx = 8 then Data.cls.elim x h f else false
theorem vCls_eq {x : Data} {f : ClassData → Bool} (h : vCls x f = true) : ∃ c, x = .cls c ∧ f c = true :=
 dt h fun q h => Data.cls.elim (motive := fun x => ∀ q : x.ctorIdx = 8, Data.cls.elim x q f = true → ∃ c, x = .cls c ∧ f c = true) x q (fun c _ h => ⟨c, rfl, h⟩) q h
noncomputable def vRef (x : Value) (f : Addr → Bool) : Bool := if h : x.ctorIdx = 10 then Value.ref.elim x h f else false
@[elab_as_elim] theorem vRef_inv {P : Value → Prop} {x : Value} {f : Addr → Bool} (h : vRef x f = true) (k : ∀ a, f a = true → P (.ref a)) : P x :=
 dt h fun q h => Value.ref.elim (motive := fun x => ∀ q : x.ctorIdx = 10, Value.ref.elim x q f = true → P x) x q (fun a _ h => k a h) q h
noncomputable def vInt (x : Value) (f : Int → Bool) : Bool := if h : x.ctorIdx = 4 then Value.int.elim x h (fun i _ => f i) else false
@[elab_as_elim] theorem vInt_inv {P : Value → Prop} {x : Value} {f : Int → Bool} (h : vInt x f = true) (k : ∀ i t, f i = true → P (.int i t)) : P x :=
 dt h fun q h => Value.int.elim (motive := fun x => ∀ q : x.ctorIdx = 4, Value.int.elim x q (fun i _ => f i) = true → P x) x q (fun i t _ h => k i t h) q h
noncomputable def vStr (x : Value) (f : Str → Bool) : Bool := if h : x.ctorIdx = 6 then Value.str.elim x h (fun s _ => f s) else false
@[elab_as_elim] theorem vStr_inv {P : Value → Prop} {x : Value} {f : Str → Bool} (h : vStr x f = true) (k : ∀ s t, f s = true → P (.str s t)) : P x :=
 dt h fun q h => Value.str.elim (motive := fun x => ∀ q : x.ctorIdx = 6, Value.str.elim x q (fun s _ => f s) = true → P x) x q (fun s t _ h => k s t h) q h
noncomputable def vStmts (x : FuncBody) (f : List Stmt → Bool) : Bool := match x with | .stmts b => f b | .expr _ => false
theorem vStmts_eq {x : FuncBody} {f : List Stmt → Bool} (h : vStmts x f = true) : ∃ b, x = .stmts b ∧ f b = true := by cases x; exact ⟨_, rfl, h⟩; exact ff h
theorem oS_eq {α : Type} {x : Option α} {f : α → Bool} (h : oS x f = true) : ∃ a, x = some a ∧ f a = true := by cases x; exact ff h; exact ⟨_, rfl, h⟩
noncomputable def gRef (K : Frag) (n : Str) (f : Addr → Bool) : Bool := oS (nsIn K mainGlobals n) fun v => oS v fun x => vRef x f
theorem gRef_eq {K : Frag} {n : Str} {f : Addr → Bool} (h : gRef K n f = true) : ∃ a, nsIn K mainGlobals n = some (some (.ref a)) ∧ f a = true := by
 obtain ⟨v, e, h⟩ := oS_eq h
 obtain ⟨x, rfl, h⟩ := oS_eq h
 exact vRef_inv (P := fun x => nsIn K mainGlobals n = some (some x) → _) h (fun a h e => ⟨a, e, h⟩) e
noncomputable def aFunc (K : Frag) (a : Addr) (f : Obj → FuncData → List Stmt → Bool) : Bool := oS (K.lookup a) fun o => vFunc o.data fun fd => vStmts fd.body (f o fd)
theorem aFunc_eq {K : Frag} {a : Addr} {f : Obj → FuncData → List Stmt → Bool} (h : aFunc K a f = true) : ∃ o fd body, K.lookup a = some o ∧ o.data = .func fd ∧ fd.body = .stmts body ∧ f o fd body = true := by
 obtain ⟨o, e1, h⟩ := oS_eq h
 obtain ⟨fd, e2, h⟩ := vFunc_eq h
 obtain ⟨b, e3, h⟩ := vStmts_eq h
 exact ⟨o, fd, b, e1, e2, e3, h⟩
noncomputable def isNone? (x : Value) : Bool := Nat.beq x.ctorIdx 0
theorem isNone_eq {x : Value} (h : isNone? x = true) : x = .none := by cases x <;> first | rfl | exact ff h
theorem zip_look (vals : List Value) : ∀ (ns : List Str) (pre : List (Str × Value)), (∀ n ∈ ns, pre.lookup n = none) → ns.Nodup → vals.length = ns.length → (ns.filterMap (fun n => ((pre ++ ns.zip vals).lookup n).map (n, ·)) = ns.zip vals) ∧ ns.filter (fun n => ((pre ++ ns.zip vals).lookup n).isNone) = [] := by
 induction vals with
 | nil => intro ns pre _ _ h; cases ns with
   | nil => exact ⟨rfl, rfl⟩
   | cons _ _ => cases h
 | cons v vals ih =>
   intro ns pre hp nd h
   cases ns with
   | nil => cases h
   | cons n ns =>
     have e1 : (pre ++ (n, v) :: ns.zip vals).lookup n = some v := by
       rw [List.lookup_append, hp n (.head _), List.lookup_cons, beq_self_eq_true]; rfl
     have nd' := List.nodup_cons.mp nd
     obtain ⟨e2, e3⟩ := ih ns (pre ++ [(n, v)]) (fun m hm => by
       rw [List.lookup_append, hp m (.tail _ hm), List.lookup_cons, beq_false_of_ne (show m ≠ n from fun q => nd'.1 (q ▸ hm))]; rfl) nd'.2 (Nat.succ.inj h)
     rw [List.append_assoc] at e2 e3
     exact ⟨by rw [List.zip_cons_cons, List.filterMap_cons, e1]; exact congrArg (_ :: ·) e2, by rw [List.zip_cons_cons, List.filter_cons_of_neg (by rw [e1]; exact Bool.false_ne_true)]; exact e3⟩
theorem plain_inv {a : Arguments} {ps : List Str} (hp : plainParams a ps = true) : a.posonlyargs = [] ∧ a.vararg = none ∧ a.kwonlyargs = [] ∧ a.kwarg = none ∧ a.defaults = [] ∧ a.args.map (fun x : Arg => x.arg) = ps :=
 an hp fun hp p6 => an hp fun hp p5 => an hp fun hp p4 => an hp fun hp p3 => an hp fun p1 p2 => ⟨List.isEmpty_iff.mp p1, Option.isNone_iff_eq_none.mp p2, List.isEmpty_iff.mp p3, Option.isNone_iff_eq_none.mp p4, List.isEmpty_iff.mp p5, of_decide_eq_true p6⟩
theorem bind_plain {fd : FuncData} {ns : List Str} {vals : List Value} (hp : plainParams fd.params ns = true) (hd : fd.defaults = .none) (nd : ns.Nodup) (hl : vals.length = ns.length) : bindArgs fd ⟨vals, []⟩ = pure (ns.zip vals) := by
 obtain ⟨e, hm⟩ := zip_look vals ns [] (fun _ _ => rfl) nd hl
 rw [List.nil_append] at e hm
 obtain ⟨p1, p2, p3, p4, p5, p6⟩ := plain_inv hp
 clear hp
 obtain ⟨nm, qn, pr, df, a1, a2, a3, a4, a5, a6, a7, a8, a9⟩ := fd
 obtain ⟨q1, q2, q3, q4, q5, q6, q7⟩ := pr
 dsimp only at p1 p2 p3 p4 p5 p6 hd
 subst p1 p2 p3 p4 p5 hd
 have hD : ([] : List Value).drop (0 - (q2.map (fun x : Arg => x.arg)).length) = [] := List.drop_nil
 have h1 : ¬ ((decide (vals.length > (q2.map (fun x : Arg => x.arg)).length) && true) = true) := by
   rw [hl, p6, Bool.and_true, decide_eq_false (Nat.lt_irrefl _)]; exact Bool.false_ne_true
 have ht : ∀ D : List Value, D = [] → (q2.map (fun x : Arg => x.arg)).take ((q2.map (fun x : Arg => x.arg)).length - D.length) = ns ∧ ((q2.map (fun x : Arg => x.arg)).drop ((q2.map (fun x : Arg => x.arg)).length - D.length)).zip D = [] := fun D h => by
   subst h; exact ⟨by rw [p6]; exact List.take_length .., List.zip_nil_right ..⟩
 obtain ⟨ht, h3⟩ := ht _ hD
 have h2 : ¬ ((!(List.filter (fun n => (List.lookup n ((q2.map (fun x : Arg => x.arg)).zip vals)).isNone) ((q2.map (fun x : Arg => x.arg)).take ((q2.map (fun x : Arg => x.arg)).length - (([] : List Value).drop (0 - (q2.map (fun x : Arg => x.arg)).length)).length))).isEmpty) = true) := by
   rw [ht, p6, hm]; exact Bool.false_ne_true
 have h4 : (q2.map (fun x : Arg => x.arg) ++ []).filterMap (fun n => (((q2.map (fun x : Arg => x.arg)).zip vals).lookup n).map (n, ·)) = ns.zip vals := by rw [List.append_nil, p6]; exact e
 have key : ∀ (xs : List (Str × Value)) (f : Str × Value → List (Str × Value) → Sem (ForInStep (List (Str × Value)))) (g : List (Str × Value) → Sem (List (Str × Value))) (r : List (Str × Value)), xs = [] → g ((q2.map (fun x : Arg => x.arg)).zip vals) = pure r → (forIn xs ((q2.map (fun x : Arg => x.arg)).zip vals) f >>= g) = pure r := fun xs f g r hx hg => by subst hx; exact hg
 refine (if_neg h1).trans ((if_neg h2).trans (key _ _ _ _ h3 (Eq.trans (b := pure ((q2.map (fun x : Arg => x.arg) ++ []).filterMap (fun n => (((q2.map (fun x : Arg => x.arg)).zip vals).lookup n).map (n, ·)))) ?_ (congrArg pure h4))))
 with_unfolding_all rfl
noncomputable def fdChk (K : Frag) (fn : Fn) (fd : FuncData) (body : List Stmt) : Bool :=
 codeIn K fd.code fd.qualname && (fd.closure.isEmpty && (Nat.beq fd.globals mainGlobals && (Nat.beq fd.builtins builtinsNs && (!fd.scope.isCoroutine && (!fd.scope.isGenerator && (decide (fd.scope.kind = .function) &&
 (isNone? fd.defaults && (plainParams fd.params (fn.ns.take fn.np) && (trSs fd.scope fn.ns fn.body body && (decide (fn.np ≤ fn.names.length) && decide fn.ns.Nodup))))))))))
noncomputable def fnChk (K : Frag) (fn : Fn) : Bool := gRef K (Str.ofString fn.name) fun a => aFunc K a fun o fd body =>
 fdChk K fn fd body && (!(fd.scope.more.any fun (n, _) => n == ("interactive" : Str)) && ((fd.scope.names.all fun x => decide (x.2 ≠ .cell)) && (fn.ns.all fun n => decide (fd.scope.names.lookup n = some .local))))
structure FdOk (base : Heap) (fn : Fn) (fd : FuncData) (body : List Stmt) : Prop where
 code : base.CodeRec fd.code fd.qualname
 clo : fd.closure = []
 glob : fd.globals = mainGlobals
 blt : fd.builtins = builtinsNs
 co : fd.scope.isCoroutine = false
 gen : fd.scope.isGenerator = false
 kind : fd.scope.kind = .function
 bind : ∀ vals : List Value, vals.length = fn.np → bindArgs fd ⟨vals, []⟩ = pure ((fn.ns.take fn.np).zip vals)
 tr : trSs fd.scope fn.ns fn.body body = true
 np : fn.np ≤ fn.names.length
 nodup : fn.ns.Nodup
theorem fd_ok {K : Frag} {h : Heap} (X : K.In h) {fn : Fn} {fd : FuncData} {body : List Stmt} (e : fdChk K fn fd body = true) : FdOk h fn fd body := by
 refine an e fun e1 e => an e fun e2 e => an e fun e3 e => an e fun e4 e => an e fun e5 e => an e fun e6 e => an e fun e7 e => an e fun e8 e => an e fun e9 e => an e fun e10 e => an e fun e11 e12 => ?_
 have nd := of_decide_eq_true e12
 refine ⟨codeRec_of X e1, List.isEmpty_iff.mp e2, Nat.eq_of_beq_eq_true e3, Nat.eq_of_beq_eq_true e4, nt e5, nt e6, of_decide_eq_true e7, fun vals hl => bind_plain e9 (isNone_eq e8) (nd.sublist (List.take_sublist ..)) ?_, e10, of_decide_eq_true e11, nd⟩
 rw [hl, List.length_take, Fn.ns, List.length_map, Nat.min_eq_left (of_decide_eq_true e11)]
theorem fns_of {K : Frag} {h : Heap} {prog : Program} {w : World} {mg : Str → Option Value} (X : K.In h) (G : h.Ns mainGlobals mg) (e : (fnTab.all (fnChk K)) = true) (f : Nat) (fn : Fn) (hf : fnTab[f]? = some fn) :
   ∃ a fd body, mg (Str.ofString fn.name) = some (.ref a) ∧ FnAt prog w h fn a fd body := by
 obtain ⟨a, ha, e⟩ := gRef_eq (List.all_eq_true.mp e fn (List.mem_of_getElem? hf))
 obtain ⟨o, fd, body, ho, hd, hb, e⟩ := aFunc_eq e
 refine an e fun e1 e => an e fun e2 e => an e fun e3 e4 => ?_
 have k := fd_ok X e1
 exact ⟨a, fd, body, mg_of X G ha, ⟨_, X _ _ ho, hd⟩, hb, k.code, k.clo, k.glob, k.blt, k.co, k.gen, k.kind, nt e2, k.bind, k.tr, k.np, fun x hx => of_decide_eq_true (List.all_eq_true.mp e3 x hx), fun n hn => of_decide_eq_true (List.all_eq_true.mp e4 n hn), k.nodup⟩
noncomputable def lawChk (K : Frag) (fn : Fn) (cn pn : Str) : Bool := gRef K (Str.ofString fn.name) fun a => aFunc K a fun o fd body =>
 fdChk K fn fd body && (Nat.beq fn.np 1 && (decide (fn.ns.take 1 = [pn]) && (decide ((fd.scope.names.filter fun x => decide (x.2 = .cell)).map (·.1) = [cn]) &&
       ((fn.ns.all fun n => decide (fd.scope.names.lookup n = some .local) || (decide (fd.scope.names.lookup n = some .cell) && decide (n = cn))) && decide (fd.scope.names.lookup pn = some .local)))))
theorem cells_none {names : List (Str × NameKind)} : ∀ {n : Nat} {acc : List (Str × Addr)}, (names.filter fun x => decide (x.2 = .cell)) = [] → cellsFrom n names acc = acc := by
 induction names with
 | nil => exact fun _ => rfl
 | cons p r ih =>
   intro n acc h
   obtain ⟨x, k⟩ := p
   cases k with
   | cell => cases h
   | _ => exact ih h
theorem cells_one {names : List (Str × NameKind)} {cn : Str} : ∀ {n : Nat}, (names.filter fun x => decide (x.2 = .cell)).map (·.1) = [cn] → cellsFrom n names [] = [(cn, n)] := by
 induction names with
 | nil => exact fun h => nomatch h
 | cons p r ih =>
   intro n h
   obtain ⟨x, k⟩ := p
   cases k with
   | cell =>
     have h : x :: (r.filter fun x => decide (x.2 = .cell)).map (·.1) = [cn] := h
     obtain ⟨rfl, h2⟩ := List.cons.inj h
     exact cells_none (names := r) (List.map_eq_nil_iff.mp h2)
   | _ => exact ih h
theorem law_of {K : Frag} {h : Heap} {prog : Program} {w : World} {mg : Str → Option Value} {fn : Fn} {cn pn : Str} (X : K.In h) (G : h.Ns mainGlobals mg) (e : lawChk K fn cn pn = true) :
   ∃ a fd body, mg (Str.ofString fn.name) = some (.ref a) ∧ LawAt prog w h fn cn pn a fd body := by
 obtain ⟨a, ha, e⟩ := gRef_eq e
 obtain ⟨o, fd, body, ho, hd, hb, e⟩ := aFunc_eq e
 refine an e fun e1 e => an e fun e2 e => an e fun e3 e => an e fun e5 e => an e fun e6 e7 => ?_
 have k := fd_ok X e1
 have hnp : fn.np = 1 := Nat.eq_of_beq_eq_true e2
 have e3 := of_decide_eq_true e3
 refine ⟨a, fd, body, mg_of X G ha, ⟨_, X _ _ ho, hd⟩, hb, k.code, k.clo, k.glob, k.blt, k.co, k.gen, k.kind, hnp, Nat.lt_of_lt_of_le (by rw [hnp]; exact Nat.one_pos) k.np, ?_, fun v => ?_, k.tr, fun n => cells_one (of_decide_eq_true e5), fun n hn => ?_, of_decide_eq_true e7, k.nodup⟩
 · have : (fn.ns.take 1)[0]? = some pn := by rw [e3]; rfl
   rwa [List.getElem?_take, if_pos Nat.one_pos] at this
 · have := k.bind [v] hnp.symm
   rw [this, hnp, e3]; rfl
 · exact (Bool.or_eq_true_iff.mp (List.all_eq_true.mp e6 n hn)).imp of_decide_eq_true fun q => an q fun a b => ⟨of_decide_eq_true a, of_decide_eq_true b⟩
end Mine
end
section
open PySem PySem.W PyProof.Rows PySem.Calls
namespace Mine
noncomputable def isType (x : Value) (T : String) : Bool := match x with | .type t => t == T | _ => false
theorem isType_eq {x : Value} {T : String} (h : isType x T = true) : x = .type T := by cases x <;> first | exact ff h | rw [eq_of_beq h]
noncomputable def bare (o : Obj) (T : String) : Bool := isType o.cls T && (o.dict.isNone && o.slots.isEmpty)
theorem bare_eq {o : Obj} {T : String} (h : bare o T = true) : o = { cls := .type T, data := o.data } := by
 obtain ⟨c, d, dt, sl⟩ := o
 refine an h fun h1 h => an h fun h2 h3 => ?_
 have e1 : c = .type T := isType_eq h1
 have e2 : d = none := Option.isNone_iff_eq_none.mp h2
 have e3 : sl = #[] := Array.isEmpty_iff.mp h3
 rw [e1, e2, e3]
noncomputable def seqChk (K : Frag) (T : String) (f : List Value → Bool) (x : Value) : Bool := vRef x fun a => oS (K.lookup a) fun o => bare o T && vSeq o.data fun vals => decide (vals.size ≤ LIM) && f vals.toList
theorem seqChk_inv {K : Frag} {h : Heap} (X : K.In h) {T : String} {f : List Value → Bool} {x : Value} (e : seqChk K T f x = true) : ∃ a vals, x = .ref a ∧ SeqAt T h a vals ∧ a ∉ ([] : List Addr) ∧ vals.length ≤ LIM ∧ f vals = true := by
 refine vRef_inv (P := fun x => ∃ a vals, x = .ref a ∧ SeqAt T h a vals ∧ a ∉ ([] : List Addr) ∧ vals.length ≤ LIM ∧ f vals = true) e fun a e => ?_
 obtain ⟨o, ho, e⟩ := oS_eq e
 refine an e fun e1 e => ?_
 obtain ⟨vals, n, hd, e⟩ := vSeq_eq e
 exact an e fun e2 e3 => ⟨a, vals.toList, rfl, ⟨n, (X _ _ ho).trans (congrArg some ((bare_eq e1).trans (by rw [hd])))⟩, (fun q => (nomatch q)), of_decide_eq_true e2, e3⟩
noncomputable def relIn (K : Frag) (v : V) : Value → Bool := @V.rec (fun _ => Value → Bool) (fun _ => List Value → Bool)
 (fun x => isNone? x) (fun b x => match x with | .bool c => b == c | _ => false) (fun i x => vInt x fun j => decide (i = j)) (fun s x => vStr x fun y => decide (y.cps.toList = s) && (decide (s.length ≤ LIM) && s.all fun c => decide (c < 1114112)))
 (fun _ r x => seqChk K "tuple" r x) (fun _ r x => seqChk K "list" r x) (fun _ _ => false) (fun xs => l0 xs true) (fun _ _ r1 r2 xs => lc xs fun x r => r1 x && r2 r) v
theorem str_of_list {x : Str} {l : List Nat} (e : x.cps.toList = l) : x = ⟨l.toArray⟩ := by subst e; rfl
theorem rel_of {K : Frag} {h : Heap} (X : K.In h) (v : V) : ∀ x : Value, relIn K v x = true → Rel [] h v x :=
 @V.rec (fun v => ∀ x : Value, relIn K v x = true → Rel [] h v x) (fun vs => ∀ xs : List Value, (@V.rec_1 (fun _ => Value → Bool) (fun _ => List Value → Bool)
     (fun x => isNone? x) (fun b x => match x with | .bool c => b == c | _ => false) (fun i x => vInt x fun j => decide (i = j)) (fun s x => vStr x fun y => decide (y.cps.toList = s) && (decide (s.length ≤ LIM) && s.all fun c => decide (c < 1114112)))
     (fun _ r x => seqChk K "tuple" r x) (fun _ r x => seqChk K "list" r x) (fun _ _ => false) (fun xs => l0 xs true) (fun _ _ r1 r2 xs => lc xs fun x r => r1 x && r2 r) vs) xs = true → RelL [] h vs xs)
   (fun x e => isNone_eq e)
   (fun b x e => by cases x <;> first | exact ff e | exact congrArg Value.bool (eq_of_beq e).symm)
   (fun i x e => vInt_inv e fun j t e => ⟨t, by rw [of_decide_eq_true e]⟩)
   (fun s x e => vStr_inv e fun y t e => an e fun e1 e => an e fun e2 e3 => ⟨t, by rw [str_of_list (of_decide_eq_true e1)], of_decide_eq_true e2, fun c hc => of_decide_eq_true (List.all_eq_true.mp e3 c hc)⟩)
   (fun vs ih x e => let ⟨a, vals, ex, h1, h2, h3, h4⟩ := seqChk_inv X e; ⟨a, vals, ex, h1, h2, h3, ih vals h4⟩)
   (fun vs ih x e => let ⟨a, vals, ex, h1, h2, h3, h4⟩ := seqChk_inv X e; ⟨a, vals, ex, h1, h2, h3, ih vals h4⟩)
   (fun i x e => ff e)
   (fun xs e => l0_inv (P := fun xs => RelL [] h [] xs) (r := true) e fun _ => rfl)
   (fun v vs ih1 ih2 xs e => lc_inv (P := fun xs => RelL [] h (v :: vs) xs) e fun x r e => an e fun e1 e2 => .cons (ih1 x e1) (ih2 r e2)) v
noncomputable def globChk (K : Frag) (p : String × V) : Bool := oS (nsIn K mainGlobals (Str.ofString p.1)) fun v => oS v (relIn K p.2)
theorem globs_of {K : Frag} {h : Heap} {mg : Str → Option Value} (X : K.In h) (G : h.Ns mainGlobals mg) (e : (globTab.all (globChk K)) = true) (i : Nat) (n : String) (v : V) (hi : globTab[i]? = some (n, v)) :
   ∃ x, mg (Str.ofString n) = some x ∧ Rel [] h v x := by
 obtain ⟨y, hy, e⟩ := oS_eq (List.all_eq_true.mp e _ (List.mem_of_getElem? hi))
 obtain ⟨x, rfl, e⟩ := oS_eq e
 exact ⟨x, mg_of X G hy, rel_of X _ _ e⟩
noncomputable def rowsIn (es : List DictEntry) : List (Nat × Nat) → Bool := match es with
 | [] => fun t => l0 t true
 | e :: es => fun t => lc t fun p r => (vStr e.key fun x => vStr e.val fun y => decide (x.cps.toList = [p.1]) && decide (y.cps.toList = [p.2])) && rowsIn es r
theorem rows_of {h : Heap} (es : List DictEntry) : ∀ (t : List (Nat × Nat)), rowsIn es t = true → KTD.Rows (KTD.Dat.At h) es (t.map fun p => ((⟨#[p.1]⟩ : Str), KTD.Dat.flat (.str ⟨#[p.2]⟩))) := by
 induction es with
 | nil => exact fun t e => l0_inv (P := fun t => KTD.Rows (KTD.Dat.At h) [] (t.map fun p => ((⟨#[p.1]⟩ : Str), KTD.Dat.flat (.str ⟨#[p.2]⟩)))) (r := true) e fun _ => .nil
 | cons en es ih =>
   intro t e
   have e : lc t (fun p r => (vStr en.key fun x => vStr en.val fun y => decide (x.cps.toList = [p.1]) && decide (y.cps.toList = [p.2])) && rowsIn es r) = true := e
   refine lc_inv (P := fun t => KTD.Rows (KTD.Dat.At h) (en :: es) (t.map fun p => ((⟨#[p.1]⟩ : Str), KTD.Dat.flat (.str ⟨#[p.2]⟩)))) (f := fun p r => (vStr en.key fun x => vStr en.val fun y => decide (x.cps.toList = [p.1]) && decide (y.cps.toList = [p.2])) && rowsIn es r) e fun p r e => an e fun e1 e2 => ?_
   obtain ⟨hs, k, v⟩ := en
   refine vStr_inv (P := fun k => KTD.Rows (KTD.Dat.At h) (⟨hs, k, v⟩ :: es) _) e1 fun x t e1 => vStr_inv (P := fun v => KTD.Rows (KTD.Dat.At h) (⟨hs, _, v⟩ :: es) _) e1 fun y u e1 => an e1 fun ex ey => ?_
   rw [str_of_list (of_decide_eq_true ex), str_of_list (of_decide_eq_true ey)]
   exact .cons rfl (.str _ _) (ih r e2)
noncomputable def tabChk (K : Frag) (n : Str) (t : List (Nat × Nat)) : Bool := gRef K n fun a => !(a == sysModules) && oS (K.lookup a) fun o => bare o "dict" && vDict o.data fun es => rowsIn es.toList t
theorem tab_of {K : Frag} {h : Heap} {mg : Str → Option Value} {n : Str} {t : List (Nat × Nat)} (X : K.In h) (G : h.Ns mainGlobals mg) (e : tabChk K n t = true) :
   ∃ a, mg n = some (.ref a) ∧ KTD.TextTab h a (t.map fun p => ((⟨#[p.1]⟩ : Str), KTD.Dat.flat (.str ⟨#[p.2]⟩))) := by
 obtain ⟨a, ha, e⟩ := gRef_eq e
 refine an e fun e1 e => ?_
 obtain ⟨o, ho, e⟩ := oS_eq e
 refine an e fun e2 e => ?_
 obtain ⟨es, ep, hd, e⟩ := vDict_eq e
 exact ⟨a, mg_of X G ha, nt e1, _, es, ep, (X _ _ ho).trans (congrArg some ((bare_eq e2).trans (by rw [hd]))), ⟨rfl, rfl, rfl⟩, rfl, rows_of _ _ e⟩
end Mine
end
section
open PySem PySem.W PyProof.Rows PySem.Calls
namespace Mine
structure EC where
 nm : Str
 q : Str
 bs : List Value
 hdct : Bool
 sn : List Str
 sub : List Value
 ab : Bool
 col : Option Bool
 dd : Option Addr
 k0 : Option Value
 k1 : Option Value
 k2 : Option Value
 k3 : Option Value
 k5 : Option Value
noncomputable abbrev EC.obj (c : EC) (C N : Addr) (bm : List Value) (newId : String) : Obj := excClassObj c.nm c.q C N c.bs bm c.hdct c.sn c.sub c.ab c.col c.dd c.k0 c.k1 c.k2 c.k3 c.k5 newId
noncomputable def OwnE (h : Heap) (C N : Addr) (bm : List Value) (newId : String) : Prop := ∃ c : EC, h.get? C = some (c.obj C N bm newId)
noncomputable def slotsChk (newId : String) (l : List (Option Value)) : Bool := lc l fun _ l => lc l fun _ l => lc l fun _ l => lc l fun _ l => lc l fun v l => lc l fun _ l => l0 l (decide (v = some (.builtin newId)))
theorem slots_inv {P : List (Option Value) → Prop} {newId : String} {l : List (Option Value)} (h : slotsChk newId l = true) (k : ∀ k0 k1 k2 k3 k5, P [k0, k1, k2, k3, some (.builtin newId), k5]) : P l :=
 lc_inv h fun k0 l h => lc_inv h fun k1 l h => lc_inv h fun k2 l h => lc_inv h fun k3 l h => lc_inv h fun v l h => lc_inv h fun k5 l h => l0_inv h fun h => by rw [of_decide_eq_true h]; exact k k0 k1 k2 k3 k5
noncomputable def ownChk (K : Frag) (C N : Addr) (bm : List Value) (newId : String) : Bool := oS (K.lookup C) fun o => isType o.cls "type" && vCls o.data fun cd => decide (cd.mro = .ref C :: bm) && (slotsChk newId o.slots.toList && (!cd.hasDel && Nat.beq cd.ns N))
theorem own_of {K : Frag} {h : Heap} {C N : Addr} {bm : List Value} {newId : String} (X : K.In h) (q : ownChk K C N bm newId = true) : OwnE h C N bm newId := by
 obtain ⟨⟨oc, od, oda, osl⟩, ho, q⟩ := oS_eq q
 refine an q fun q0 q => ?_
 obtain ⟨cd, hd, q⟩ := vCls_eq q
 refine an q fun q1 q => an q fun q2 q => an q fun q3 q4 => ?_
 obtain ⟨nm, bs, mro, ns, qn, hdct, sn, sub, ab, col, del⟩ := cd
 have q0 : oc = .type "type" := isType_eq q0
 have q1 : mro = .ref C :: bm := of_decide_eq_true q1
 have q3 : del = false := nt q3
 have q4 : ns = N := Nat.eq_of_beq_eq_true q4
 have hd : oda = _ := hd
 have hs : ∃ k0 k1 k2 k3 k5, osl = #[k0, k1, k2, k3, some (.builtin newId), k5] := by
   obtain ⟨l⟩ := osl
   exact slots_inv (P := fun l => ∃ k0 k1 k2 k3 k5, (Array.mk l) = #[k0, k1, k2, k3, some (.builtin newId), k5]) q2 fun k0 k1 k2 k3 k5 => ⟨k0, k1, k2, k3, k5, rfl⟩
 obtain ⟨k0, k1, k2, k3, k5, hs⟩ := hs
 refine ⟨⟨nm, qn, bs, hdct, sn, sub, ab, col, od, k0, k1, k2, k3, k5⟩, (X _ _ ho).trans ?_⟩
 rw [q0, hd, hs, q1, q3, q4]
section
variable {prog : Program} {w : World} {A : Around} {E : Value → Shared → Prop} {s : Shared} {base : Heap} {C N : Addr} {bm : List Value} {newId : String}
theorem OwnE.keeps {h h' : Heap} (O : OwnE h C N bm newId) (k : h.StaysIn h') : OwnE h' C N bm newId := O.imp fun _ e => k _ _ e
theorem keeper_of (O : OwnE base C N bm newId) {Q : Keeper → Shared → Prop} (k : base.StaysIn s.heap) (hq : Q .machine s) : wpAny (model prog w) A (keeperOf (.ref C)) Q E s := by
 obtain ⟨c, hC⟩ := O.keeps k
 obtain ⟨h, g, d, t, os⟩ := s
 exact wpAny_keeperOf_exc hC hq
theorem caught_of {K : Frag} (X : K.In base) (hx : exmOne K (.ref C) (.ref C) = some true) {Q : Bool → Shared → Prop} {e : Addr} {o : Obj} (k : base.StaysIn s.heap) (he : s.heap.get? e = some o) (hc : o.cls = .ref C) (hq : Q true s) : wpAny (model prog w) A (excMatches (.ref e) (.ref C)) Q E s := by
 have X' : K.In s.heap := X.keeps fun b o q => k b o q
 have LT : Looks (model prog w) s.heap (typeOf (.ref e)) (.ref C) := hc ▸ (Looks.ld he).andThen .now
 exact (exm_one X' LT hx).here hq
theorem tail_of (O : OwnE base C N bm newId) (hbase : bm.contains (.type "BaseException") = true) (htype : bm.contains (.type "type") = false) {Q : Flow → Shared → Prop} {e : Addr} (hh : A.handled = none) (k : base.StaysIn s.heap) (x : ExcObj C e s.heap) (hE : E (.ref e) s) : wpAny (model prog w) A (raiseTail (.ref e)) Q E s := by
 obtain ⟨c, hC⟩ := O.keeps k
 obtain ⟨oe, vs, a0, he, hcls, hd, h0, h1⟩ := x
 obtain ⟨ocls, odict, odata, oslots⟩ := oe
 dsimp only at hcls hd
 subst hcls hd
 have hcB : (Value.ref C :: bm).contains (.type "BaseException") = true := by rw [List.contains_cons, hbase, Bool.or_true]
 have hcT : (Value.ref C :: bm).contains (.type "type") = false := by rw [List.contains_cons, htype]; rfl
 obtain ⟨hp, g, d, tk, os⟩ := s
 unfold raiseTail
 repeat (first | with_reducible refine wpAny_loadPart_at he ?_ | with_reducible refine wpAny_loadPart_at hC ?_ | (with_reducible refine wpAny_isSubtype_exc hC ?_; first | rw [hcB] | rw [hcT]) | wp_step)
 rw [h1]
 refine wpAny_pure ?_
 refine wpAny_pure ?_
 exact wpAny_raiseNew_none hh hE
end
end Mine
end
section
open PySem PySem.W PyProof.Rows PySem.Calls
namespace Mine
set_option maxRecDepth 100000
noncomputable abbrev tupObj (rest : List Value) : Obj := { cls := .type "tuple", data := .seq rest.toArray }
noncomputable abbrev excObj (C t : Addr) : Obj := { cls := .ref C, data := .fields #[.ref t, .none, .none, .none, .bool false, .none] }
section
variable {prog : Program} {w : World} {A : Around} {E : Value → Shared → Prop} {R : Result → Shared → Prop} {h : Heap} {g : Array GenState} {d : Drawn} {t : Nat} {os : OsState}
variable {c : EC} {C N : Addr} {bm : List Value} {B newId initId : String} {bmB : List Value}
theorem check_new (F : ExcBaseFacts B newId initId bmB) (hB : bm.contains (.type B) = true) {rest : List Value} {Q : Unit → Shared → Prop} (hC : h.get? C = some (c.obj C N bm newId))
   (hq : Q () ⟨h, g, d, t, os⟩) : wpAny (model prog w) A (checkBuiltinCall newId ⟨.ref C :: rest, []⟩) Q E ⟨h, g, d, t, os⟩ := by
 have hcont : (Value.ref C :: bm).contains (.type B) = true := by rw [List.contains_cons, hB, Bool.or_true]
 have hstar := F.noStar
 simp only [checkBuiltinCall, F.newKind, F.newSplit, F.newRow]
 repeat (first | with_reducible refine wpAny_loadPart_at hC ?_ | (with_reducible refine wpAny_isSubtype_exc hC ?_; rw [hcont]) | with_reducible refine wpAny_staticBase_exc hC ?_ | with_reducible refine wpAny_madeBy_exc hC ?_ | wp_step)
 all_goals exact hq
theorem run_new (F : ExcBaseFacts B newId initId bmB) (hB : bm.contains (.type B) = true) (hA : bm.contains (.type "AttributeError") = false) (hN : bm.contains (.type "NameError") = false) {rest : List Value}
   (hC : h.get? C = some (c.obj C N bm newId))
   (hq : R (.ok (.ret (.ref (h.objs.size + 1)))) ⟨(h.push (tupObj rest)).push (excObj C h.objs.size), g, d, t, os⟩) (hrest : rest.length ≤ sizeLine) :
   codeAny (model prog w) A (.builtin newId ⟨.ref C :: rest, []⟩) R ⟨h, g, d, t, os⟩ := by
 have hends := F.ends
 have hcB : (Value.ref C :: bm).contains (.type B) = true := by rw [List.contains_cons, hB, Bool.or_true]
 have hcA : (Value.ref C :: bm).contains (.type "AttributeError") = false := by rw [List.contains_cons, hA]; rfl
 have hcN : (Value.ref C :: bm).contains (.type "NameError") = false := by rw [List.contains_cons, hN]; rfl
 refine codeAny_builtinAt F.entry ?_
 unfold Builtin.«BaseException.__new__»
 refine PySem.wpAt_bind ?_
 show PySem.wpAt _ _ _ (stack >>= _) _ _ _
 refine PySem.wpAt_bind (PySem.wpAt_stack fun p below => PySem.wpAt_of_wpAny ?_)
 wp_walk
 refine PySem.wpAt_of_wpAny ?_
 rw [F.owner]
 repeat (first | with_reducible refine wpAny_madeHere_exc F.canon hC ?_ | with_reducible refine wpAny_loadPart_at hC ?_ | (with_reducible refine wpAny_isSubtype_exc hC ?_; first | rw [hcB] | rw [hcA] | rw [hcN]) | wp_step)
 show R _ _
 rw [Heap.size_push]
 exact hq
theorem run_make (F : ExcBaseFacts B newId initId bmB) (hB : bm.contains (.type B) = true) (hA : bm.contains (.type "AttributeError") = false) (hN : bm.contains (.type "NameError") = false) {mN : Str → Option Value} {fI : Addr} {rest : List Value} {Q : Value → Shared → Prop}
   (hC : h.get? C = some (c.obj C N bm newId)) (hn : h.Ns N mN) (hni : mN "__init__" = some (.ref fI)) {oI : Obj} (hI : h.get? fI = some oI) (hIc : oI.cls = .type "function") (hrest : rest.length ≤ sizeLine)
   (hq : wpAny (model prog w) (A.under (.builtin "type.__call__" ⟨.ref C :: rest, []⟩)) (call (.ref fI) (.ref (h.objs.size + 1) :: rest)) (fun v s' => v = .none ∧ Q (.ref (h.objs.size + 1)) s') E ⟨(h.push (tupObj rest)).push (excObj C h.objs.size), g, d, t, os⟩) :
   wpAny (model prog w) A (call (.ref C) rest) Q E ⟨h, g, d, t, os⟩ := by
 have f1 := tc_lookup
 have f2 := tc_bind (.ref C)
 have hT : (⟨h, g, d, t, os⟩ : Shared).TypeIs (.ref C) "type" := ⟨_, hC, rfl⟩
 refine wpAny_call (codeAny_of_tree ?_)
 show wpAny _ _ (callAny (.ref C) _) _ _ _
 repeat (any_goals (first | assumption | with_reducible refine wpAny_loadPart_at hC ?_ | wp_step))
 refine ⟨rfl, ?_⟩
 refine codeAny_call_builtin_at (Code.quiet_builtin _ (by decide +kernel)) entry_typeCall (wpAny_check_type_call_sub hC ?_)
 repeat (first | with_reducible refine wpAny_loadPart_at hC ?_ | with_reducible refine wpAny_madeBy_exc hC ?_ | wp_step)
 refine codeAny_call_builtin_code (Code.quiet_builtin _ F.quiet) (check_new F hB hC ?_)
 refine run_new F hB hA hN hC ?_ hrest
 show wpAny _ _ _ _ _ _
 have hC₁ := Heap.get?_push_of_some (excObj C h.objs.size) (Heap.get?_push_of_some (tupObj rest) hC)
 have hn₁ : ((h.push (tupObj rest)).push (excObj C h.objs.size)).Ns N mN :=
   let ⟨o, es, ep, e, r⟩ := hn; ⟨o, es, ep, Heap.get?_push_of_some _ (Heap.get?_push_of_some _ e), r⟩
 have hget : ((h.push (tupObj rest)).push (excObj C h.objs.size)).get? (h.objs.size + 1) = some { cls := .ref C, data := .fields #[.ref h.objs.size, .none, .none, .none, .bool false, .none] } := by heap_get
 have hcC : (Value.ref C :: bm).contains (.ref C) = true := by simp
 unfold isInstance
 repeat (first | with_reducible refine wpAny_loadPart_at hget ?_ | (with_reducible refine wpAny_isSubtype_exc hC₁ ?_; rw [hcC]) | wp_step)
 refine wpAny_isSubtype_exc hC₁ ?_
 rw [hcC]
 repeat (first | with_reducible refine wpAny_loadPart_at hget ?_ | wp_step)
 show wpAny _ _ (typeLookup (.ref C) _) _ _ _
 rw [typeLookup_eq]
 refine wpAny_bind (wpAny_mroOf_exc hC₁ ?_)
 rw [lookupAlong_cons]
 refine wpAny_bind (wpAny_classOwn_exc hC₁ hn₁ ?_)
 rw [hni]
 refine wpAny_pure ?_
 have hI₁ := Heap.get?_push_of_some (excObj C h.objs.size) (Heap.get?_push_of_some (tupObj rest) hI)
 have LT : Looks (model prog w) ((h.push (tupObj rest)).push (excObj C h.objs.size)) (typeOf (.ref fI)) (.type "function") := hIc ▸ (Looks.ld hI₁).andThen .now
 have LB : Looks (model prog w) ((h.push (tupObj rest)).push (excObj C h.objs.size)) (bindSpecial (.ref fI) (.ref (h.objs.size + 1))) (.ref fI, [.ref (h.objs.size + 1)]) := by
   unfold bindSpecial; exact LT.andThen (Looks.of_pure (by kernel_rfl))
 refine wpAny_holding (wpAny_bind (LB.at (wpAny_bind (wpAny_mono hq (fun v s' z => ?_) fun _ _ z => z))))
 obtain ⟨rfl, z⟩ := z
 exact wpAny_pure (wpAny_pure z)
end
end Mine
end
section
open PySem PySem.W PyProof.Rows PySem.Calls Builtin Builtin.ObjectAttr
namespace Mine
set_option maxRecDepth 100000
noncomputable def stChk (K : Frag) (C P : Addr) : Bool := (clsIn K C).any (fun cd => cd.hasDict && cd.mro == [.ref C, .ref P, .type "Exception", .type "BaseException", .type "object"]) && findIn K (.ref C) "__setattr__" == some (some (.builtin "object.__setattr__"))
section
variable {prog : Program} {w : World} {A : Around} {E : Value → Shared → Prop} {s : Shared} {K : Frag} {C P x : Addr} {mA : Str → Option Value} {name : Str} {v : Value}
theorem ex_store {Q : Unit → Shared → Prop} {ns : List Str} (X : K.In s.heap) (ck : stChk K C P = true) (ht : takerIn K C name = some none) (I : s.heap.Inst x C mA) (hw : Within mA ns) (hsz : ns.length ≤ 1000)
   (hq : ∀ h' tk', h'.Inst x C (fun y => if y = name then some v else mA y) →
     (∀ b o, b ≠ x → (∀ o₀ dx, s.heap.get? x = some o₀ → o₀.dict = some dx → b ≠ dx) → s.heap.get? b = some o → h'.get? b = some o) →
     (∀ o₀, s.heap.get? x = some o₀ → ∃ o₁, h'.get? x = some o₁ ∧ o₁.cls = o₀.cls ∧ o₁.data = o₀.data ∧ o₁.slots = o₀.slots ∧ (∀ dx, o₀.dict = some dx → o₁.dict = some dx) ∧ (o₀.dict = none → o₁.dict = some s.heap.objs.size)) → Q () { s with heap := h', toks := tk' }) :
   wpAny (model prog w) A (setAttr (.ref x) name v) Q E s := by
 obtain ⟨ck1, ck2⟩ := Bool.and_eq_true_iff.mp ck
 have hs := beq_iff_eq.mp ck2
 obtain ⟨cd, hcd, ck1⟩ := any_some ck1
 obtain ⟨hdct, hmro⟩ := Bool.and_eq_true_iff.mp ck1
 have hmro := beq_iff_eq.mp hmro
 obtain ⟨o, hx, hc, hnc, hd⟩ := I
 have SF := PySem.F.store_Exception
 have hno : notCls o = true := by
   unfold notCls
   split
   · rename_i c q; exact absurd q (hnc c)
   · rfl
 obtain ⟨od, IA⟩ : ∃ od, InstAt s.heap x o C od := by
   rcases hd with ⟨hdn, _⟩ | ⟨dx, hdx, hne, hns⟩
   · exact ⟨none, hx, hc, hno, by rw [hdn]; trivial⟩
   · obtain ⟨oD, es, ep, e1, _⟩ := hns
     exact ⟨some oD, hx, hc, hno, by rw [hdx]; exact e1⟩
 refine set_plain X IA hs ?_
 have sub : Looks (model prog w) s.heap (isInstance (.ref x) (.type "object")) true := IA.type.andThen (looks_mroIn X (by unfold mroIn; rw [hcd, Option.bind_some, hmro]; simp))
 refine codeAny_call_builtin SF.slot.plain SF.entry (@check_slot (model prog w) _ _ { s with toks := s.toks + 1 } "object.__setattr__" "object" "__setattr__" (.ref x) [.str name s.toks, v] [] _ SF.kind SF.split sub (SF.args (.ref x) (.str name s.toks) v) ?_)
 obtain ⟨attr, ha, hr⟩ := Option.bind_eq_some_iff.mp ht
 have hm : Looks (model prog w) s.heap (mroOf (.ref C)) cd.mro := (looks_clsIn X hcd).andThen .now
 have L3 : Looks (model prog w) s.heap (storeTaker? attr) none := by
   cases attr with
   | none => exact .now
   | some a =>
     obtain ⟨b, hb, hbn⟩ := Option.map_eq_some_iff.mp hr
     refine (looks_takesIn X hb).andThen ?_
     cases b
     · exact .now
     · cases hbn
 rw [osa_eq, refuse_eq]
 refine wpAny_bind (wpAny_bind (IA.type.at (wpAny_bind (hm.at ?_))))
 rw [hmro, refuseLoop_ref, refuseLoop_ref, SF.passes]
 refine wpAny_pure (wpAny_bind (IA.type.at (wpAny_bind ((looks_findIn X ha).at (wpAny_bind (L3.at ?_))))))
 dsimp only
 obtain ⟨oc, odi, oda, osl⟩ := o
 dsimp only at hc hd
 subst hc
 refine wpAny_bind (wpAny_pure (wpAny_bind (wpAny_bind (wpAny_loadPart hx (wpAny_bind ((looks_clsIn X hcd).at ?_))))))
 rw [hdct]
 rcases hd with ⟨hdn, hmA⟩ | ⟨dx, hdx, hne, hns⟩
 · subst hdn
   rw [if_neg (by decide)]
   dsimp only
   rw [if_neg (by simp [typeHasDict])]
   split
   · exact absurd rfl (hnc _)
   · have hx₁ : (s.heap.push { cls := .type "dict", data := .dict #[] }).get? x = some { cls := .ref C, data := oda, slots := osl } := Heap.get?_push_of_some _ hx
     have hxs : x ≠ s.heap.objs.size := Nat.ne_of_lt (Heap.lt_size hx)
     refine wpAny_bind (wpAny_alloc ?_)
     refine wpAny_bind (wpAny_update' hx₁ ?_)
     refine wpAny_pure ?_
     have hgd : ((s.heap.push { cls := .type "dict", data := .dict #[] }).update x fun o => { cls := o.cls, dict := some s.heap.objs.size, data := o.data, slots := o.slots }).get? s.heap.objs.size
         = some { cls := .type "dict", data := .dict #[] } :=
       (Heap.get?_update_ne _ _ _ _ hxs.symm).trans (Heap.get?_push_at rfl rfl)
     have hnd : ((s.heap.push { cls := .type "dict", data := .dict #[] }).update x fun o => { cls := o.cls, dict := some s.heap.objs.size, data := o.data, slots := o.slots }).Ns s.heap.objs.size (fun _ => none) :=
       ⟨_, #[], _, hgd, rfl, fun e he => absurd he (by simp), fun _ => rfl⟩
     show wpAny _ _ (storeInDict s.heap.objs.size (.str name s.toks) name v) _ _ _
     unfold storeInDict newKeyGuard
     refine wpAny_bind (wpAny_pure (wpAny_bind (wpAny_nsSet1 (Heap.Ns1.of_empty hnd) fun h' hn' hs => ?_)))
     obtain ⟨oD, esD, epD, hoD, hdD, hcD⟩ := hn'.count (Within.cons name v Within.nil)
     refine wpAny_bind (wpAny_lookBehind hoD (by rw [hdD]; exact pastItsLine_dict (Nat.le_trans hcD (by rw [List.length_cons, List.length_nil, sizeLine_eq]; lia))) ?_)
     have hx' : h'.get? x = some { cls := .ref C, dict := some s.heap.objs.size, data := oda, slots := osl } := by
       refine (hs.2 x hxs).trans (Heap.get?_update_self _ hx₁ ?_)
       have hfr := (Heap.get?_some_iff.mp hx).2
       cases oda <;> first | rfl | exact hfr
     refine wpAny_pure (hq h' _ ⟨_, hx', rfl, hnc, .inr ⟨s.heap.objs.size, rfl, hxs.symm, ?_⟩⟩ (fun b ob hbx _ hb => ?_)
       (fun o₀ h₀ => by have := Option.some.inj (hx.symm.trans h₀); subst this; exact ⟨_, hx', rfl, rfl, rfl, (fun dx e => by cases e), fun _ => rfl⟩))
     · obtain ⟨o', es, ep, e1, e2, e3, eu, e4⟩ := hn'
       exact ⟨o', es, ep, e1, e2, e3, eu, fun y => by rw [e4 y]; by_cases hy : y = name <;> simp [hy, hmA]⟩
     · exact (hs.2 b (Nat.ne_of_lt (Heap.lt_size hb))).trans ((Heap.get?_update_ne _ _ _ _ hbx).trans (Heap.get?_push_of_some _ hb))
 · subst hdx
   refine wpAny_pure (a := some dx) (wpAny_bind (wpAny_pure (wpAny_bind ?_)))
   refine wpAny_nsSet1 (s := { s with toks := s.toks + 1 }) hns fun h' hn' hs => ?_
   obtain ⟨oD, esD, epD, hoD, hdD, hcD⟩ := hn'.count (Within.cons name v hw)
   refine wpAny_bind (wpAny_lookBehind hoD (by rw [hdD]; exact pastItsLine_dict (Nat.le_trans hcD (by rw [List.length_cons, sizeLine_eq]; lia))) ?_)
   refine wpAny_pure (hq h' _ ⟨_, (hs.2 x hne.symm).trans hx, rfl, hnc, .inr ⟨dx, rfl, hne, hn'⟩⟩ (fun b ob _ hbd hb => ?_)
     (fun o₀ h₀ => ⟨o₀, (hs.2 x hne.symm).trans h₀, rfl, rfl, rfl, fun _ e => e, fun e => ?_⟩))
   · exact (hs.2 b (hbd _ dx hx rfl)).trans hb
   · have := Option.some.inj (hx.symm.trans h₀)
     subst this; cases e
end
end Mine
end
section
open PySem PySem.W PyProof.Rows PySem.Calls
namespace Mine
set_option maxRecDepth 100000
noncomputable abbrev exOf (C : Addr) (a0 : Addr) (dct : Option Addr) : Obj := { cls := .ref C, dict := dct, data := .fields #[.ref a0, .none, .none, .none, .bool false, .none] }
section
variable {prog : Program} {w : World} {A : Around} {E : Value → Shared → Prop} {R : Result → Shared → Prop} {h : Heap} {g : Array GenState} {d : Drawn} {t : Nat} {os : OsState}
variable {c : EC} {C N : Addr} {bm : List Value} {B newId initId : String} {bmB : List Value}
theorem check_init (F : ExcBaseFacts B newId initId bmB) (hB : bm.contains (.type B) = true) {M : Model} {e : Addr} {oe : Obj} {rest : List Value} {Q : Unit → Shared → Prop}
   (hC : h.get? C = some (c.obj C N bm newId)) (he : h.get? e = some oe) (hcls : oe.cls = .ref C) (hq : Q () ⟨h, g, d, t, os⟩) :
   wpAny M A (checkBuiltinCall initId ⟨.ref e :: rest, []⟩) Q E ⟨h, g, d, t, os⟩ := by
 have hcB : (Value.ref C :: bm).contains (.type B) = true := by rw [List.contains_cons, hB, Bool.or_true]
 have hshort := F.noStar
 simp only [checkBuiltinCall, F.initKind, F.initSplit, F.initRow]
 repeat (first | (with_reducible refine wpAny_loadPart_at he ?_; rw [hcls]) | with_reducible refine wpAny_loadPart_at hC ?_ | (with_reducible refine wpAny_isSubtype_exc hC ?_; rw [hcB]) | wp_step)
 refine wpAny_onRaise ?_
 rw [show ∀ (a b : String) (n : Nat), Bind.check ⟨.positional, "*", B, .self, [⟨"args", .varPos, false⟩]⟩ a b n (List.map (fun x => x.fst) ({ pos := Value.ref e :: rest } : Args).kw) = pure () from
   fun a b n => check_star_args _ _ _ _ _ _]
 exact wpAny_pure hq
theorem run_excInit (F : ExcBaseFacts B newId initId bmB) (hB : bm.contains (.type B) = true) {e : Addr} {a0 : Addr} {dct : Option Addr} {rest : List Value} {Q : Value → Shared → Prop}
   (hC : h.get? C = some (c.obj C N bm newId)) (he : h.get? e = some (exOf C a0 dct)) (hrest : rest.length ≤ sizeLine)
   (hq : ∀ h', (∀ b o, b ≠ e → h.get? b = some o → h'.get? b = some o) → h'.get? e = some (exOf C h.objs.size dct) → Q .none ⟨h', g, d, t, os⟩) :
   wpAny (model prog w) A (call (.builtin initId) (.ref e :: rest)) Q E ⟨h, g, d, t, os⟩ := by
 refine wpAny_call (codeAny_call_builtin F.init.plain F.initEntry (check_init F hB hC he rfl ?_))
 wp_walk
 refine hq _ (fun b o hb hk => ?_) ?_
 · rw [Heap.get?_update_other _ _ (Ne.symm hb)]
   exact Heap.get?_push_of_some _ hk
 · rw [Heap.get?_update_self _ (Heap.get?_push_of_some _ he) rfl]
   rfl
end
end Mine
end
section
open PySem PySem.W PyProof.Rows PySem.Calls
namespace Mine
set_option maxRecDepth 100000
section
variable {prog : Program} {w : World} {A : Around} {E : Value → Shared → Prop} {s : Shared} {K : Frag} {pl : Sem Bool} {Q : Value × List Value → Shared → Prop}
theorem gm_exc (X : K.In s.heap) (hga : findIn K (.type "type") "__getattribute__" = some (some (.builtin "type.__getattribute__"))) (hi : subIn K (.type "type") (.type "type") = some true)
   (e : findCls K (.type "Exception") (.type "type") "__init__" = some (.val (.builtin "Exception.__init__"))) (h : Q (.builtin "Exception.__init__", []) { s with toks := s.toks + 1 }) :
   wpAny (model prog w) A (getMethod (.type "Exception") "__init__" pl) Q E s := by
 have ht : typeOf (.type "Exception") = pure (.type "type") := by kernel_rfl
 have hT : Looks (model prog w) s.heap (typeOf (.type "Exception")) (.type "type") := .of_pure ht
 have hs : Looks (model prog w) s.heap (specialOf (.type "Exception") "__getattribute__") (some (.builtin "type.__getattribute__")) := hT.andThen (.of_pure KF.slot_tga.lookup)
 unfold getMethod
 refine wpAny_bind (hs.here ?_)
 dsimp only
 rw [if_pos canon_tga]
 refine wpAny_bind ?_
 refine cls_open X (.of_pure (by kernel_rfl)) hT hga (hook := none) (looks_hook X (by rfl)) hi e ?_
 refine wpAny_pure ?_
 show wpAny _ _ (handedOut _) _ _ _
 rw [handedOut_of (by decide +kernel)]
 exact wpAny_pure (wpAny_pure h)
theorem gm_own {P f : Addr} (X : K.In s.heap) (hg : specialIn K (.ref P) "__getattribute__" = some (some (.builtin "type.__getattribute__"))) (hr : readsIn K P (.type "type") = true)
   (e : findCls K (.ref P) (.type "type") "__init__" = some (.val (.ref f))) (h : Q (.ref f, []) { s with toks := s.toks + 1 }) :
   wpAny (model prog w) A (getMethod (.ref P) "__init__" pl) Q E s := method_cls X hg (cls_value X hr e rfl h)
end
end Mine
end
section
open PySem PySem.W PyProof.Rows PySem.Calls
namespace Mine
set_option maxRecDepth 100000
noncomputable def IsInit (B attr : Str) (b : List Stmt) : Prop := ∃ p1 p2 p3 p4 p5 p6 p7 p8 p9 p10, (p2.endLine == p5.line) = true ∧ b = [.Expr (.Call (.Attribute (.Name B p1) "__init__" p2) [.Name "self" p3, .Name "text" p4] [] p5) p6, .Assign [.Attribute (.Name "self" p7) attr p8] (.Name attr p9) p10]
structure InitFn (prog : Program) (w : World) (h : Heap) (f : Addr) (B attr : Str) (ns : List Str) (fd : FuncData) (o : Obj) : Prop where
 at_ : h.get? f = some o
 cls : o.cls = .type "function"
 data : o.data = .func fd
 body : ∃ b, fd.body = .stmts b ∧ IsInit B attr b
 code : h.CodeRec fd.code fd.qualname
 clo : fd.closure = []
 glob : fd.globals = mainGlobals
 blt : fd.builtins = builtinsNs
 co : fd.scope.isCoroutine = false
 gen : fd.scope.isGenerator = false
 kind : fd.scope.kind = .function
 bind : ∀ vals : List Value, vals.length = ns.length → bindArgs fd ⟨vals, []⟩ = pure (ns.zip vals)
 nodup : ns.Nodup
 cell : ∀ x ∈ fd.scope.names, x.2 ≠ .cell
 locs : ∀ n ∈ ns, fd.scope.names.lookup n = some .local
 base : fd.scope.names.lookup B = some .globalImplicit
noncomputable def initBody (B attr : Str) (b : List Stmt) (r : Bool) : Bool := l2 b fun s1 s2 =>
 vEx s1 fun v p6 => vCall v fun g xs ks p5 => vAt g fun o n p2 => vName o fun B' p1 => l2 xs fun y z => l0 ks (vName y fun a1 p3 => vName z fun a2 p4 =>
 vAsg s2 fun ts w p10 => l1 ts fun t => vAt t fun u a4 p8 => vName u fun a3 p7 => vName w fun a5 p9 =>
 isIt B' B (isIt n ("__init__" : Str) (isIt a1 ("self" : Str) (isIt a2 ("text" : Str) (isIt a3 ("self" : Str) (isIt a4 attr (isIt a5 attr (p2.endLine == p5.line && r))))))))
theorem initBody_inv {B attr : Str} {b : List Stmt} {r : Bool} (h : initBody B attr b r = true) : IsInit B attr b ∧ r = true :=
 l2_inv (P := fun b => IsInit B attr b ∧ r = true) h fun s1 s2 h =>
 vEx_inv h fun v p6 h => vCall_inv h fun g xs ks p5 h => vAt_inv h fun o n p2 h => vName_inv h fun B' p1 h => l2_inv h fun y z h => l0_inv h fun h => vName_inv h fun a1 p3 h => vName_inv h fun a2 p4 h =>
 vAsg_inv h fun ts w p10 h => l1_inv h fun t h => vAt_inv h fun u a4 p8 h => vName_inv h fun a3 p7 h => vName_inv h fun a5 p9 h =>
 isIt_inv h fun h => isIt_inv h fun h => isIt_inv h fun h => isIt_inv h fun h => isIt_inv h fun h => isIt_inv h fun h => isIt_inv h fun h => an h fun h1 h2 => ⟨⟨p1, p2, p3, p4, p5, p6, p7, p8, p9, p10, h1, rfl⟩, h2⟩
noncomputable def initChk (K : Frag) (f : Addr) (B attr : Str) (ns : List Str) : Bool := aFunc K f fun o fd body => isType o.cls "function" && initBody B attr body
 (codeIn K fd.code fd.qualname && (fd.closure.isEmpty && (Nat.beq fd.globals mainGlobals && (Nat.beq fd.builtins builtinsNs && (!fd.scope.isCoroutine && (!fd.scope.isGenerator && (decide (fd.scope.kind = .function) &&
     (isNone? fd.defaults && (plainParams fd.params ns && (decide ns.Nodup && ((fd.scope.names.all fun x => decide (x.2 ≠ .cell)) && ((ns.all fun n => decide (fd.scope.names.lookup n = some .local)) && decide (fd.scope.names.lookup B = some .globalImplicit)))))))))))))
theorem init_of {K : Frag} {h : Heap} {prog : Program} {w : World} (X : K.In h) {f : Addr} {B attr : Str} {ns : List Str} (e : initChk K f B attr ns = true) : ∃ fd o, InitFn prog w h f B attr ns fd o := by
 obtain ⟨o, fd, body, ho, hd, hb, e⟩ := aFunc_eq e
 refine an e fun e0 e => ?_
 obtain ⟨hbody, e⟩ := initBody_inv e
 refine an e fun q9 e => an e fun q10 e => an e fun q11 e => an e fun q12 e => an e fun q13 e => an e fun q14 e => an e fun q15 e => an e fun q16 e => an e fun q17 e => an e fun q18 e => an e fun q19 e => an e fun q20 q21 => ?_
 have nd := of_decide_eq_true q18
 exact ⟨fd, o, X _ _ ho, isType_eq e0, hd, ⟨body, hb, hbody⟩, codeRec_of X q9, List.isEmpty_iff.mp q10, Nat.eq_of_beq_eq_true q11, Nat.eq_of_beq_eq_true q12, nt q13, nt q14, of_decide_eq_true q15, fun vals hl => bind_plain q17 (isNone_eq q16) nd hl, nd,
   fun x hx => of_decide_eq_true (List.all_eq_true.mp q19 x hx), fun n hn => of_decide_eq_true (List.all_eq_true.mp q20 n hn), of_decide_eq_true q21⟩
structure AftI (C e : Addr) (mA : Str → Option Value) (h h' : Heap) : Prop where
 keep : ∀ b o, b ≠ e → h.get? b = some o → h'.get? b = some o
 there : ∃ a1 dct, h'.get? e = some (exOf C a1 dct) ∧ ∀ dx, dct = some dx → h.get? dx = none
 inst : h'.Inst e C mA
section
variable {prog : Program} {w : World} {A : Around} {E : Value → Shared → Prop} {s : Shared} {K : Frag} {base : Heap} {C P e a0 f : Addr} {B attr : Str} {ns : List Str} {fd : FuncData} {o : Obj} {mA : Str → Option Value}
theorem own_method {B n a1 a2 : Str} {p1 p2 p3 p4 p5 : Pos} {env : Env} {Q : Value → Shared → Prop} (hline : (p2.endLine == p5.line) = true)
   (h : wpAny (model prog w) A (eval (.Name B p1) env) (fun ov s₁ => ∀ pl, wpAny (model prog w) A (getMethod ov n pl) (fun fx s₂ => wpAny (model prog w) A (callWith p5 fx.1 fx.2 [(false, eval (.Name a1 p3) env), (false, eval (.Name a2 p4) env)] []) Q E s₂) E s₁) E s) :
   wpAny (model prog w) A (eval (.Call (.Attribute (.Name B p1) n p2) [.Name a1 p3, .Name a2 p4] [] p5) env) Q E s := by
 rw [arm_eval_Call]
 show wpAny _ A (eval (.Name B p1) env >>= _) _ _ _
 refine wpAny_bind (wpAny_mono h (fun ov s₁ h₁ => ?_) fun _ _ e => e)
 refine wpAny_bind (wpAny_standAt ?_)
 have hpos : methodCallPos true (.Name B p1) env p2 p5 = pure p5 := by unfold methodCallPos; simp [hline]
 unfold methodCall
 rw [show methodCallForm ([Expr.Name a1 p3, Expr.Name a2 p4].length + ([] : List Keyword).length) (backTo p5 (starEach [Expr.Name a1 p3, Expr.Name a2 p4] env)) (backToKw p5 (keywordEach [] env)) = true from rfl]
 refine wpAny_bind (wpAny_holding (wpAny_mono (h₁ _) (fun fx s₂ h₂ => ?_) fun _ _ e => e))
 exact wpAny_bind (wpAny_of_eq hpos h₂)
theorem stays_of {h h' : Heap} (hb : base.StaysIn h) (hn : base.get? e = none) (k : ∀ b o, b ≠ e → h.get? b = some o → h'.get? b = some o) : base.StaysIn h' := fun b o q => k b o (fun z => by rw [z, hn] at q; cases q) (hb b o q)
theorem run_init {rest : List Value} {X t : Value} {bv fv : Value} {Q : Value → Shared → Prop} (XK : K.In base) (nolim : base.NoLimit) (I : InitFn prog w base f B attr ns fd o) (ck : stChk K C P = true) (ht : takerIn K C attr = some none)
   (hvl : (Value.ref e :: rest).length = ns.length) (hself : (ns.zip (Value.ref e :: rest)).reverse.lookup ("self" : Str) = some (.ref e)) (htext : (ns.zip (Value.ref e :: rest)).reverse.lookup ("text" : Str) = some t) (hattr : (ns.zip (Value.ref e :: rest)).reverse.lookup attr = some X)
   (hself' : ("self" : Str) ∈ ns) (htext' : ("text" : Str) ∈ ns) (hattr' : attr ∈ ns) (hBd : (B == ("__debug__" : Str)) = false) (hAd : (attr == ("__debug__" : Str)) = false)
   (hs : base.StaysIn s.heap) (hroom : A.depth + 1 < recursionLimit) (he : s.heap.get? e = some (exOf C a0 none)) (hne : base.get? e = none)
   (hB : ∀ (env : Env) (A' : Around) (s' : Shared) (Q' E' : Value → Shared → Prop), env.globals = mainGlobals → env.builtins = builtinsNs → base.StaysIn s'.heap → Q' bv s' → wpAny (model prog w) A' (loadGlobal env B) Q' E' s')
   (hG : ∀ (A' : Around) (s' : Shared) (pl : Sem Bool) (Q' : Value × List Value → Shared → Prop) (E' : Value → Shared → Prop), base.StaysIn s'.heap → Q' (fv, []) { s' with toks := s'.toks + 1 } → wpAny (model prog w) A' (getMethod bv "__init__" pl) Q' E' s')
   (hW : ∀ (A' : Around) (s' : Shared) (pos : Pos) (args : List (Bool × Sem Value)) (Q' E' : Value → Shared → Prop), args.any (·.1) = false → base.StaysIn s'.heap → wpAny (model prog w) A' (evalArgs fv true args []) (fun a s₁ => base.StaysIn s₁.heap ∧ wpAny (model prog w) A' (call fv a.pos a.kw) Q' E' s₁) E' s' → wpAny (model prog w) A' (callWith pos fv [] args []) Q' E' s')
   (hC : ∀ (A' : Around) (s' : Shared) (Q' E' : Value → Shared → Prop), A'.depth = A.depth + 1 → base.StaysIn s'.heap → s'.heap.get? e = some (exOf C a0 none) → (∀ h' tk', AftI C e mA s'.heap h' → Q' .none { s' with heap := h', toks := tk' }) → wpAny (model prog w) A' (call fv [.ref e, t]) Q' E' s')
   {nsA : List Str} (hw : Within mA nsA) (hwl : nsA.length ≤ 1000)
   (hq : ∀ h' tk', AftI C e (fun y => if y = attr then some X else mA y) s.heap h' → Q .none { s with heap := h', toks := tk' }) :
   wpAny (model prog w) A (call (.ref f) (.ref e :: rest)) Q E s := by
 obtain ⟨_, hbody, p1, p2, p3, p4, p5, p6, p7, p8, p9, p10, hline, rfl⟩ := I.body
 have hrl : recursionLimit = 1000 := by decide +kernel
 refine wpAny_call (codeAny_call_def (by lia) (hs _ _ I.at_) I.data (nolim.keeps fun b o e => hs b o e) (I.code.keeps fun b o e => hs b o e) hbody (.of_eq (I.bind _ hvl)) I.cell (fun p hp => I.locs _ (List.of_mem_zip (a := p.1) (b := p.2) hp).1) (fun h₀ hns keep => ?_) I.co I.gen I.kind)
 generalize hL : s.heap.objs.size = L at *
 have newL : s.heap.get? L = none := Heap.get?_none_of_le (by rw [← hL]; exact Nat.le_refl _)
 have hLe : L ≠ e := fun q => by rw [q, he] at newL; cases newL
 have hs0 : base.StaysIn h₀ := fun b o q => keep b o (hs b o q)
 have he0 := keep _ _ he
 have loc : ∀ (n : Str) (v : Value) (s' : Shared) (A' : Around) (pos : Pos) (Q' E' : Value → Shared → Prop), n ∈ ns → (n == ("__debug__" : Str)) = false → (ns.zip (Value.ref e :: rest)).reverse.lookup n = some v → s'.heap.Ns L (fun x => (ns.zip (Value.ref e :: rest)).reverse.lookup x) → Q' v s' →
     wpAny (model prog w) A' (eval (.Name n pos) (callEnv fd L f)) Q' E' s' := fun n v s' A' pos Q' E' hn hd hv hns' hq' =>
   wpAny_Name (wpAny_loadName_local I.kind (I.locs n hn) hns' hv hq') hd
 refine wpAny_execs_cons (wpAny_Expr_any (own_method hline ?_) (by unfold interactive; rw [show (callEnv fd L f).scope.kind = fd.scope.kind from rfl, I.kind]; rfl) rfl)
 refine Name_function_global I.kind I.base (hB _ _ _ _ _ I.glob I.blt hs0 ?_) hBd
 refine fun pl => hG _ _ _ _ _ hs0 ?_
 dsimp only
 refine hW _ _ _ _ _ _ rfl hs0 (evalArgs_plain (spliced_cons ?_))
 refine loc _ _ _ _ _ _ _ hself' (by decide) hself hns (spliced_cons (loc _ _ _ _ _ _ _ htext' (by decide) htext hns (spliced_nil ?_)))
 refine ⟨hs0, ?_⟩
 refine hC _ _ _ _ rfl hs0 he0 fun h₁ tk₁ a₁ => ?_
 have hs1 : base.StaysIn h₁ := stays_of hs0 hne a₁.keep
 obtain ⟨oL, es, ep, hL0, hLd⟩ := hns
 have hns1 : h₁.Ns L (fun x => (ns.zip (Value.ref e :: rest)).reverse.lookup x) := ⟨oL, es, ep, a₁.keep _ _ hLe hL0, hLd⟩
 refine wpAny_execs_cons (plainObj_wpAny_Assign_Attribute (loc _ _ _ _ _ _ _ hattr' hAd hattr hns1 (loc _ _ _ _ _ _ _ hself' (by decide) hself hns1 ?_)) rfl)
 refine ex_store (K := K) (XK.keeps fun b o q => hs1 b o q) ck ht a₁.inst hw hwl fun h₂ tk₂ i₂ k₂ o₂ => ?_
 refine wpAny_execs_nil (hq _ _ ?_)
 obtain ⟨a1, dct, ha1, hdct⟩ := a₁.there
 have k : ∀ b o, b ≠ e → s.heap.get? b = some o → h₂.get? b = some o := fun b ob hb q => by
   have q0 := keep b ob q
   refine k₂ b ob hb (fun o₀ dx h0 hd z => ?_) (a₁.keep b ob hb q0)
   have := Option.some.inj (ha1.symm.trans h0)
   subst this
   have := hdct dx hd
   rw [← z, q0] at this; cases this
 obtain ⟨o₁, g1, g2, g3, g4, g5, g6⟩ := o₂ _ ha1
 refine ⟨k, ?_, i₂⟩
 obtain ⟨oc, odi, oda, osl⟩ := o₁
 dsimp only at g2 g3 g4 g5 g6
 subst g2 g3 g4
 refine ⟨a1, odi, g1, fun dx hdx => ?_⟩
 have contra : ∀ ob, s.heap.get? dx = some ob → False := fun ob q => by
   cases dct with
   | some dx' =>
     have h1 := g5 dx' rfl
     rw [hdx] at h1
     cases h1
     have h2 := hdct dx rfl
     rw [keep _ _ q] at h2; cases h2
   | none =>
     have h1 := g6 rfl
     have hdxe : dx = h₁.objs.size := Option.some.inj (hdx.symm.trans h1)
     by_cases z : dx = e
     · have h2 := Heap.lt_size ha1
       rw [← z, hdxe] at h2
       exact Nat.lt_irrefl _ h2
     · have h2 := Heap.lt_size (a₁.keep _ _ z (keep _ _ q))
       rw [hdxe] at h2
       exact Nat.lt_irrefl _ h2
 cases q : s.heap.get? dx with
 | none => rfl
 | some ob => exact (contra ob q).elim
end
end Mine
end
section
open PySem PySem.W PyProof.Rows PySem.Calls
namespace Mine
set_option maxRecDepth 100000
theorem ns_some_of {K : Frag} {h : Heap} {N : Addr} {m : Str → Option Value} {n : Str} {v : Value} (X : K.In h) (G : h.Ns N m) (e : nsIn K N n = some (some v)) : m n = some v := by
 obtain ⟨o, es, ep, ho, hd, _, hf⟩ := G
 unfold nsIn at e
 split at e
 · rename_i c d es' n' sl q
   have := X _ _ q
   rw [ho] at this
   cases this
   cases hd
   split at e
   · rename_i en he
     cases e
     rw [← hf]
     unfold nsFind findBy
     rw [← Array.find?_toList, he]
     rfl
   · split at e <;> cases e
 · cases e
noncomputable def excMro (P : Addr) : List Value := [.ref P, .type "Exception", .type "BaseException", .type "object"]
structure ExcK (K : Frag) (C P N fI gI : Addr) : Prop where
 own : ownChk K C N (excMro P) "Exception.__new__" = true
 st : stChk K C P = true
 tk1 : takerIn K C "text" = some none
 tk2 : takerIn K C "line" = some none
 i1 : initChk K fI "PerlError" "line" ["self", "text", "line"] = true
 i2 : initChk K gI "Exception" "text" ["self", "text"] = true
 ns : nsOkIn K N = true
 nI : nsIn K N "__init__" = some (some (.ref fI))
 p : nsIn K mainGlobals "PerlError" = some (some (.ref P))
 x : nsIn K mainGlobals "Exception" = some none
 gp : specialIn K (.ref P) "__getattribute__" = some (some (.builtin "type.__getattribute__"))
 gr : readsIn K P (.type "type") = true
 gf : findCls K (.ref P) (.type "type") "__init__" = some (.val (.ref gI))
 tg : findIn K (.type "type") "__getattribute__" = some (some (.builtin "type.__getattribute__"))
 ts : subIn K (.type "type") (.type "type") = some true
 tf : findCls K (.type "Exception") (.type "type") "__init__" = some (.val (.builtin "Exception.__init__"))
section
variable {prog : Program} {w : World} {A : Around} {E : Value → Shared → Prop} {s : Shared} {K : Frag} {base : Heap} {C P N fI gI : Addr} {mg mb : Str → Option Value}
theorem perl_init (XK : K.In base) (nolim : base.NoLimit) (G : base.Ns mainGlobals mg) (Bn : base.Ns builtinsNs mb) (hb : mb "Exception" = some (.type "Exception")) (k : ExcK K C P N fI gI) {e a0 : Addr} {t : Value} {Q : Value → Shared → Prop}
   (hs : base.StaysIn s.heap) (hroom : A.depth + 1 < recursionLimit) (he : s.heap.get? e = some (exOf C a0 none)) (hne : base.get? e = none)
   (hq : ∀ h' tk', AftI C e (fun y => if y = ("text" : Str) then some t else none) s.heap h' → Q .none { s with heap := h', toks := tk' }) :
   wpAny (model prog w) A (call (.ref gI) [.ref e, t]) Q E s := by
 obtain ⟨fd, o, I⟩ := init_of (prog := prog) (w := w) XK k.i2
 have O := own_of XK k.own
 refine run_init (ns := ["self", "text"]) (X := t) (t := t) (bv := .type "Exception") (fv := .builtin "Exception.__init__") (mA := fun _ => none) (nsA := []) XK nolim I k.st k.tk1 rfl rfl rfl rfl (by decide) (by decide) (by decide) (by decide) (by decide) hs hroom he hne ?_ ?_ ?_ ?_ Within.nil (Nat.zero_le _) hq
 · intro env A' s' Q' E' hg hbl hst hq'
   exact loadGlobal_builtin (hg ▸ Ns.stays G hst) (mg_none_of XK G k.x) (hbl ▸ Ns.stays Bn hst) hb hq'
 · intro A' s' pl Q' E' hst hq'
   exact gm_exc (XK.keeps fun b o q => hst b o q) k.tg k.ts k.tf hq'
 · intro A' s' pos args Q' E' hp hst h
   exact callWith_builtin hp (wpAny_mono h (fun a s₁ z => z.2) fun _ _ z => z)
 · intro A' s' Q' E' hdep hst he' hq'
   obtain ⟨c, hC⟩ := O.keeps hst
   obtain ⟨hp, g, d, tk, os⟩ := s'
   refine run_excInit PySem.F.excBase_Exception (by simp [excMro]) hC he' (by rw [sizeLine_eq]; simp) fun h' k' e' => hq' h' tk ⟨k', ⟨_, none, e', fun dx q => by cases q⟩, ⟨_, e', rfl, (fun c q => by cases q), .inl ⟨rfl, fun _ => rfl⟩⟩⟩
theorem die_init (XK : K.In base) (nolim : base.NoLimit) (G : base.Ns mainGlobals mg) (Bn : base.Ns builtinsNs mb) (hb : mb "Exception" = some (.type "Exception")) (k : ExcK K C P N fI gI) {e a0 : Addr} {t l : Value} {Q : Value → Shared → Prop}
   (hs : base.StaysIn s.heap) (hroom : A.depth + 2 < recursionLimit) (he : s.heap.get? e = some (exOf C a0 none)) (hne : base.get? e = none)
   (hq : ∀ h' tk' mA, AftI C e mA s.heap h' → Q .none { s with heap := h', toks := tk' }) :
   wpAny (model prog w) A (call (.ref fI) [.ref e, t, l]) Q E s := by
 obtain ⟨fd, o, I⟩ := init_of (prog := prog) (w := w) XK k.i1
 obtain ⟨fd2, o2, I2⟩ := init_of (prog := prog) (w := w) XK k.i2
 refine run_init (ns := ["self", "text", "line"]) (X := l) (t := t) (bv := .ref P) (fv := .ref gI) (mA := fun y => if y = ("text" : Str) then some t else none) (nsA := ["text"]) XK nolim I k.st k.tk2 rfl rfl rfl rfl (by decide) (by decide) (by decide) (by decide) (by decide) hs (by lia) he hne ?_ ?_ ?_ ?_ (Within.cons _ _ Within.nil) (by decide) fun h' tk' a => hq h' tk' _ a
 · intro env A' s' Q' E' hg hbl hst hq'
   exact loadGlobal_global (hg ▸ Ns.stays G hst) (mg_of XK G k.p) hq'
 · intro A' s' pl Q' E' hst hq'
   exact gm_own (XK.keeps fun b o q => hst b o q) k.gp k.gr k.gf hq'
 · intro A' s' pos args Q' E' hp hst h
   exact callWith_function (o := o2) (fd := fd2) (wpAny_mono h (fun a s₁ z => ⟨⟨z.1 _ _ I2.at_, I2.data⟩, z.2⟩) fun _ _ z => z)
 · intro A' s' Q' E' hdep hst he' hq'
   exact perl_init XK nolim G Bn hb k hst (by lia) he' hne fun h' tk' a => hq' h' tk' a
theorem made_of (XK : K.In base) (nolim : base.NoLimit) (G : base.Ns mainGlobals mg) (Bn : base.Ns builtinsNs mb) (hb : mb "Exception" = some (.type "Exception")) (k : ExcK K C P N fI gI)
   (A : Around) (E : Value → Shared → Prop) (s : Shared) (Q : Value → Shared → Prop) (X : Str) (t u : Tok) (hh : A.handled = none) (hdep : A.depth ≤ 900) (huni : A.units ≤ 9000) (hst : base.StaysIn s.heap)
   (hQ : ∀ e s', (∀ b o, s.heap.get? b = some o → s'.heap.get? b = some o) → s.heap.get? e = none → ExcObj C e s'.heap → Same s s' → Q (.ref e) s') : wpAny (model prog w) A (call (.ref C) [.str X t, .int 0 u]) Q E s := by
 have O := own_of XK k.own
 obtain ⟨c, hC⟩ := O.keeps hst
 obtain ⟨fd, o, I⟩ := init_of (prog := prog) (w := w) XK k.i1
 have XS : K.In s.heap := XK.keeps fun b o q => hst b o q
 have hn : s.heap.Ns N (s.heap.nsMap N) := .of_isNs (isNs_of_in XS k.ns)
 have hni := ns_some_of XS hn k.nI
 have hrl : recursionLimit = 1000 := by decide +kernel
 obtain ⟨h, g, d, tk, os⟩ := s
 refine run_make PySem.F.excBase_Exception (by simp [excMro]) (by simp [excMro]) (by simp [excMro]) hC hn hni (hst _ _ I.at_) I.cls (by rw [sizeLine_eq]; simp) ?_
 have hnew : h.get? (h.objs.size + 1) = none := Heap.get?_none_of_le (Nat.le_succ _)
 have keep : ∀ b o, h.get? b = some o → ((h.push (tupObj [.str X t, .int 0 u])).push (excObj C h.objs.size)).get? b = some o := fun b o q => Heap.get?_push_of_some _ (Heap.get?_push_of_some _ q)
 have hget : ((h.push (tupObj [.str X t, .int 0 u])).push (excObj C h.objs.size)).get? (h.objs.size + 1) = some (exOf C h.objs.size none) := by heap_get
 have hne : base.get? (h.objs.size + 1) = none := by
   cases q : base.get? (h.objs.size + 1) with
   | none => rfl
   | some ob => have := hst _ _ q; rw [hnew] at this; cases this
 have hroom : (A.under (.builtin "type.__call__" ⟨[.ref C, .str X t, .int 0 u], []⟩)).depth + 2 < recursionLimit := by
   have hw : Code.weight (.builtin "type.__call__" ⟨[.ref C, .str X t, .int 0 u], []⟩) = 1 := by kernel_rfl
   show A.depth + Code.weight _ + 2 < _
   rw [hw]; lia
 refine die_init XK nolim G Bn hb k (fun b o q => keep b o (hst b o q)) hroom hget hne fun h' tk' mA a => ⟨rfl, ?_⟩
 obtain ⟨a1, dct, h1, _⟩ := a.there
 refine hQ _ _ (fun b o q => a.keep b o (fun z => by rw [z, hnew] at q; cases q) (keep b o q)) hnew ⟨_, _, _, h1, rfl, rfl, rfl, rfl⟩ ⟨rfl, rfl⟩
end
end Mine
end
section
open PySem PySem.W PyProof.Rows
namespace Mine
theorem items_int (xs : List WData) : WShape.hasItems [] xs .int = true → ∃ ns : List Int, xs = ns.map .int := by
 induction xs with
 | nil => exact fun _ => ⟨[], rfl⟩
 | cons d r ih =>
   intro h
   obtain ⟨h1, h2⟩ := Bool.and_eq_true_iff.mp h
   obtain ⟨i, rfl⟩ := hasW_int h1
   obtain ⟨ns, rfl⟩ := ih h2
   exact ⟨i :: ns, rfl⟩
theorem well_ints {P : Params} {h : Heap} {ns : List Int} : ∀ {vs : List Value}, WellAll P h vs (ns.map .int) → RelL [] h (ns.map V.int) vs := by
 induction ns with
 | nil => intro vs w; cases w; exact .nil
 | cons n ns ih => intro vs w; cases w with
   | cons w1 w2 => cases w1; exact .cons (.int _ _) (ih w2)
theorem most_of {l : OpenLaw} {ns : List Int} (hm : l.most = some 63) (hb : l.bound = none) (h : WTm.holds [] l.pre { args := [.list (ns.map .int)] } = true) : ns.length ≤ 63 := by
 unfold OpenLaw.pre at h
 rw [hm, hb] at h
 simp [WTm.holds, WTm.value] at h
 by_cases q : ns.length ≤ 63
 · exact q
 · exfalso
   have hless : PySem.W.less? (.int 63) (.int ns.length) = some (decide ((63 : Int) < ns.length)) := by unfold PySem.W.less?; rfl
   rw [show ∀ a b, less? a b = PySem.W.less? a b from fun _ _ => rfl, hless, show decide ((63 : Int) < ns.length) = true from decide_eq_true (by lia)] at h
   simp at h
theorem arg_of {l : OpenLaw} {P : Params} {h : Heap} {args : List WData} {vals : List Value} (hm : l.most = some 63) (hb : l.bound = none) (hpre : l.row.toRowW.claim.pre args = true) (hw : WellAll P h vals args) :
   ∃ (ns : List Int) (x : Value), ns.length ≤ 63 ∧ vals = [x] ∧ Rel [] h (.il (ns.map .int)) x := by
 obtain ⟨h1, h2⟩ := pre_splitW hpre
 change WShape.hasAll [] args [.list .int] = true at h1
 obtain ⟨d, r, rfl, h3, h4⟩ := hasAllW_cons h1
 have := hasAllW_nil h4
 subst this
 obtain ⟨xs, rfl, h5⟩ := hasW_list h3
 obtain ⟨ns, rfl⟩ := items_int _ h5
 cases hw with
 | cons w1 w2 =>
   cases w2
   cases w1 with
   | list w3 w4 =>
     have hl : ns.length ≤ 63 := most_of hm hb h2
     have rl := well_ints w4
     have e := rl.length
     rw [List.length_map] at e
     exact ⟨ns, _, hl, rfl, .il ⟨_, w3⟩ (fun q => nomatch q) (Nat.le_trans (e ▸ hl) (by decide)) rl⟩
structure AllK (K : Frag) (C P N fI gI : Addr) : Prop where
 fns : (fnTab.all (fnChk K)) = true
 law : lawChk K f_law "sign" "script" = true
 globs : (globTab.all (globChk K)) = true
 esc : tabChk K "SHORT_ESCAPES" escTab = true
 close : tabChk K "CLOSERS" closeTab = true
 die : nsIn K mainGlobals "SyntaxDie" = some (some (.ref C))
 bis : (([.len, .chr, .ord, .str, .min] : List Bi).all fun f => decide (nsIn K mainGlobals (biName f) = some none) && decide (bootBuiltins (biName f) = some (biVal f))) = true
 rng : nsIn K mainGlobals "range" = some none
 exc : ExcK K C P N fI gI
 catch_ : exmOne K (.ref C) (.ref C) = some true
theorem top_of {K : Frag} {C P N fI gI : Addr} {p : Program} {loose : List Str} {mean : ExcName → Option Value} {mg mb : Str → Option Value} {h : Heap} {prog : Program} {w : World} (k : AllK K C P N fI gI) (X : K.In h) (T : PyProof.Rows.Top p loose mean mg mb h) : Mine.Top prog w h mg mb C := by
 have O := own_of X k.exc.own
 have hbis : ∀ f : Bi, mg (biName f) = none ∧ mb (biName f) = some (biVal f) := fun f => by
   obtain ⟨h1, h2⟩ := Bool.and_eq_true_iff.mp (List.all_eq_true.mp k.bis f (by cases f <;> simp))
   exact ⟨mg_none_of X T.g (of_decide_eq_true h1), by rw [T.builtins _ (by cases f <;> decide), of_decide_eq_true h2]⟩
 exact
   { nsG := T.g, nsB := T.b, nolim := T.nolimit
     globs := globs_of X T.g k.globs
     esc := tab_of X T.g k.esc
     close := tab_of X T.g k.close
     bis := hbis
     rng := ⟨mg_none_of X T.g k.rng, by rw [T.builtins _ (by decide)]; kernel_rfl⟩
     die := mg_of X T.g k.die
     keeper := fun A E s Q hs hq => keeper_of O hs hq
     made := fun A E s Q Y t u hh hd hu hs hQ => made_of X T.nolimit T.g T.b (by rw [T.builtins _ (by decide)]; kernel_rfl) k.exc A E s Q Y t u hh hd hu hs hQ
     tail := fun A E s Q e hh hs x hE => tail_of O (by simp [excMro]) (by simp [excMro]) hh hs x hE
     caught := fun A E s Q e o hs he hc hq => caught_of X k.catch_ hs he hc hq
     fns := fns_of X T.g k.fns }
end Mine
end
section
open PySem PySem.W PyProof.Rows
namespace Mine
noncomputable def PlainLaw : Prop := ∃ d, d ≤ 500 ∧ ∀ ns : List Int, ns.length ≤ 63 → ∃ μ', runFn (evCall fnTab d) f_law [.il (ns.map .int)] [] = .ok (.bool true) μ'
theorem walk_of (PL : PlainLaw) {l : OpenLaw} {K : Frag} {C P N fI gI : Addr} {p : Program} {loose : List Str} {mean : ExcName → Option Value} {mg mb : Str → Option Value} {w : World} {cl : Str → Option Addr} {mean' : ExcName → Option Value} {s : Shared} (k : AllK K C P N fI gI)
   (X : K.In s.heap) (T : PyProof.Rows.Top p loose mean mg mb s.heap) (hname : l.name = ("law" : Str)) (hm : l.most = some 63) (hb : l.bound = none) {fa : Addr} (hfa : mg "law" = some (.ref fa)) (hg : s.gens = #[])
   {args : List WData} {vals : List Value} (hpre : l.row.toRowW.claim.pre args = true) (hw : WellAll w.params s.heap vals args) :
   wpAny (model l.prog w) callerA (call (.ref fa) vals) (fun v s' => GoodWG l.row.toRowW.claim cl mean' args s (.ok (.ret v)) s') (fun e s' => GoodWG l.row.toRowW.claim cl mean' args s (.error e) s') s := by
 obtain ⟨ns, x, hlen, rfl, rx⟩ := arg_of hm hb hpre hw
 obtain ⟨d, hd, PL⟩ := PL
 obtain ⟨μ', hr⟩ := PL ns hlen
 have MT := top_of (prog := l.prog) (w := w) k X T
 obtain ⟨a, fd, body, ha, L⟩ := law_of (prog := l.prog) (w := w) X T.g k.law
 have : a = fa := by
   have h1 : mg "law" = some (.ref a) := ha
   rw [hfa] at h1; cases h1; rfl
 subst this
 have hA : Aok callerA s.heap s.heap [] (d + 1) := ⟨rfl, rfl, (by show 1 + claimMargin + (d + 1) ≤ 900; unfold claimMargin; lia), (by show 4 + 3 * (d + 1) ≤ 9000; lia), fun e he => nomatch he⟩
 have I : Inv s.heap [] [] s.heap := ⟨fun b o e => e, rfl, List.nodup_nil, (fun a ha => nomatch ha), fun i a vs h => by cases h⟩
 refine law_run (κ := ⟨l.prog, w, s.heap, mg, mb, C, d, evCall fnTab d⟩) MT L hA I rx hr fun y ρ' s' st I' ry sm => ?_
 cases (ry : y = .bool true)
 refine ⟨.inl ⟨_, .bool true, [], rfl, ?_, .bool true, ?_, fun _ => ⟨List.nodup_nil, fun a ha => nomatch ha⟩⟩, OldK.of_keep fun b o e => I'.stays b o e, sm.os, AllBare.of_eq (sm.gens.trans hg)⟩
 · intro cls; rfl
 · have h1 : WShape.has [] (.bool true) .bool = true := by simp [WShape.has, WShape.arms]
   have h2 : (WTm.eq .res (.lit (.bool true))).holds [] { args := args, res := some (.bool true), after := args } = true := by
     have h3 : PySem.W.same (.bool true) (.bool true) = true := by first | rfl | (simp [PySem.W.same]) | decide
     simp [WTm.holds, WTm.value, h3]
   show (WShape.has l.row.records (.bool true) l.row.returns && l.row.post.holds l.row.records _) = true
   rw [show WShape.has l.row.records (.bool true) l.row.returns = true from h1]
   exact h2
end Mine
end
section
open PySem PySem.W PyProof.Rows
set_option Elab.async false
set_option maxRecDepth 100000
set_option maxHeartbeats 0
namespace Mine
noncomputable abbrev pw : Program := PySem.Challenge.pw_qd0142_01
noncomputable def vw : Program := view pw [60]
noncomputable def lo : List Str := pw.boundNames.filter fun n => n != "law"
noncomputable def ads : List Addr := [2, 3, 15, 22, 24, 25, 27, 28, 29, 30, 31, 32, 35, 42, 44, 45, 47, 48, 49, 50, 51, 54, 55, 56, 58, 59, 61, 62, 63, 65, 66, 68, 69, 70, 72, 73, 75, 76, 77, 79, 80, 82, 83, 84, 86, 87, 89, 90, 91, 93, 94, 96, 97, 98, 100, 101, 103, 104, 105, 107, 108, 110, 111, 112, 114, 115, 117, 118, 119, 121, 122, 124, 125, 126, 128, 129, 131, 132, 133, 135, 136, 138, 139, 140, 142, 143, 145, 146, 147, 149, 150, 152, 153, 154, 156, 157, 159, 160, 161, 163, 164, 166, 167, 168, 170, 171, 173, 174, 175, 177, 178, 180, 181, 182, 184, 185, 187, 188, 189, 191, 192, 194, 195, 196, 198, 199, 201, 202, 203, 205, 206, 208, 209, 210, 212, 213, 215, 216, 217, 219, 220, 222, 223, 224, 227, 228, 229, 232, 233, 234, 236, 237, 239, 240, 241, 243, 244, 246, 247, 248, 250, 251, 253, 254, 255, 257, 258, 260, 261, 262, 264, 265, 267, 268, 269, 271, 272, 274, 275, 276, 277, 278, 279, 280, 281, 282, 283, 284, 285, 286, 287, 288, 289, 290, 291, 292, 293, 294, 295, 296, 297, 298, 299, 300, 301, 302, 303, 304, 305, 306, 307, 308, 309, 310, 311, 312, 313, 314, 315, 316, 317, 318, 319, 320, 322, 323, 325, 326, 327, 329, 330, 332, 333, 334, 337, 338, 339, 342, 343, 344, 347, 348, 349, 351, 352, 354, 355, 356, 358, 359, 361, 362, 363, 365, 366, 368, 369, 370, 372, 373, 375, 376, 377, 380, 381]
noncomputable def kOf (h : Heap) : Frag := ads.filterMap fun a => (h.get? a).map fun o => (a, o)
theorem lookup_of (h : Heap) : ∀ (l : List Addr) (a : Addr) (o : Obj), (l.filterMap fun a => (h.get? a).map fun o => (a, o)).lookup a = some o → h.get? a = some o
 | [], a, o, e => by cases e
 | b :: l, a, o, e => by
   rw [List.filterMap_cons] at e
   cases hb : h.get? b with
   | none => rw [hb] at e; exact lookup_of h l a o e
   | some x =>
     rw [hb] at e
     simp only [Option.map_some, List.lookup] at e
     split at e
     · rename_i q; cases e; rw [beq_iff_eq.mp q]; exact hb
     · exact lookup_of h l a o e
theorem kOf_in (h : Heap) : (kOf h).In h := fun a o e => lookup_of h ads a o e
noncomputable def looks1 (K : Frag) : Bool := (fnTab.take 20).all (fnChk K)
noncomputable def looks2 (K : Frag) : Bool := (fnTab.drop 20).all (fnChk K)
noncomputable def looks3 (K : Frag) :=
 (lawChk K f_law "sign" "script", globTab.all (globChk K), tabChk K "SHORT_ESCAPES" escTab, tabChk K "CLOSERS" closeTab, nsIn K mainGlobals "SyntaxDie",
  (([.len, .chr, .ord, .str, .min] : List Bi).all fun f => decide (nsIn K mainGlobals (biName f) = some none) && decide (bootBuiltins (biName f) = some (biVal f))), nsIn K mainGlobals "range", exmOne K (.ref 51) (.ref 51),
  ownChk K 51 50 (excMro 31) "Exception.__new__", stChk K 51 31, takerIn K 51 "text", takerIn K 51 "line", initChk K 48 "PerlError" "line" ["self", "text", "line"], initChk K 28 "Exception" "text" ["self", "text"], nsOkIn K 50,
  nsIn K 50 "__init__", nsIn K mainGlobals "PerlError", nsIn K mainGlobals "Exception", specialIn K (.ref 31) "__getattribute__", readsIn K 31 (.type "type"), findCls K (.ref 31) (.type "type") "__init__",
  findIn K (.type "type") "__getattribute__", subIn K (.type "type") (.type "type"), findCls K (.type "Exception") (.type "type") "__init__")
noncomputable def good3 :=
 (true, true, true, true, (some (some (Value.ref 51)) : Option (Option Value)),
  true, (some none : Option (Option Value)), (some true : Option Bool),
  true, true, (some none : Option (Option Value)), (some none : Option (Option Value)), true, true, true,
  (some (some (Value.ref 48)) : Option (Option Value)), (some (some (Value.ref 31)) : Option (Option Value)), (some none : Option (Option Value)), (some (some (.builtin "type.__getattribute__")) : Option (Option Value)), true, (some (.val (.ref 28)) : Option CFound),
  (some (some (.builtin "type.__getattribute__")) : Option (Option Value)), (some true : Option Bool), (some (.val (.builtin "Exception.__init__")) : Option CFound))
noncomputable def looks (K : Frag) := (looks1 K, looks2 K, looks3 K)
noncomputable def good (_ : World) := (true, true, good3)
theorem all_of {K : Frag} {w : World} (e : looks K = good w) : AllK K 51 31 50 48 28 := by
 unfold looks good looks3 good3 at e
 simp only [Prod.mk.injEq] at e
 obtain ⟨a0, a1, a2, a3, a4, a5, a6, a7, a8, a9, b1, b2, b3, b4, b5, b6, b7, b8, b9, c1, c2, c3, c4, c5, c6, c7⟩ := e
 have h : fnTab.all (fnChk K) = true := by
   rw [← List.take_append_drop 20 fnTab, List.all_append, Bool.and_eq_true]; exact ⟨a0, a1⟩
 exact ⟨h, a2, a3, a4, a5, a6, a7, a8, ⟨b1, b2, b3, b4, b5, b6, b7, b8, b9, c1, c2, c3, c4, c5, c6, c7⟩, a9⟩
noncomputable abbrev says (_ : World) (h : Heap) : Prop := ∃ K : Frag, K.In h ∧ AllK K 51 31 50 48 28
theorem says_of (w : World) (s : Shared) (e : looks (kOf s.heap) = good w) : says w s.heap := ⟨_, kOf_in _, all_of e⟩
theorem says_keeps (w : World) (h h' : Heap) (x : says w h) (k : ∀ b o, h.get? b = some o → h'.get? b = some o) : says w h' := by
 obtain ⟨K, a, b⟩ := x
 exact ⟨K, a.keeps k, b⟩
theorem op_eq : opening pw = plainProg pw.main.scope.names := by kernel_rfl
theorem fence_eq (s : Shared) : fenceModules? pw s = some s := by kernel_rfl
theorem boot_pw (w : World) : ∃ os, fencedOpening treeTable pw w 4574 = some ⟨boot_heap w.params, #[], boot_drawn, boot_toks, os⟩ := by
 have h := boot_open (N := 4574) op_eq (by decide) fence_eq w
 obtain ⟨s, hs, hv⟩ := Option.map_eq_some_iff.mp h
 obtain ⟨a, b, c, d, os⟩ := s
 cases hv
 exact ⟨os, hs⟩
noncomputable def rcs : WRecords := (RowW.records (PySem.Challenge.rw_qd0142_01.row.toRowW))
noncomputable abbrev xt (s : Shared) : Bool := xlAt vw [] s && recOk rcs s
noncomputable def topF (w : World) (os : OsState) : Option Shared := topFrom treeTable pw w 4574 ⟨boot_heap w.params, #[], boot_drawn, boot_toks, os⟩
theorem topF_fast (w : World) (os : OsState) : topF w os = (fun s₀ : Shared => match s₀.heap.isNs mainGlobals && s₀.gens.size == 0 with
 | true => (PySem.W.Fast.tw14082659384304107361 PySem.W.Fast.tw14364793385576792824 pw w s₀.heap.objs.size (s₀.heap.nsMap mainGlobals "__annotations__") 4574 s₀ (topStub pw)).bind fun s₁ => match staticsOk (PySem.W.Fast.tw5923862056798008813 pw.main.body) s₀.heap s₁.heap && namesBound pw s₁.heap && gensDone s₁ && laidKept s₀.heap s₁.heap with
     | true => some s₁
     | false => none
 | false => none) ⟨boot_heap w.params, #[], boot_drawn, boot_toks, os⟩ := by
 rw [← PySem.W.Fast.te14364793385576792824, ← PySem.W.Fast.te14082659384304107361, ← PySem.W.Fast.te5923862056798008813]
 rfl
noncomputable def seenQ (w : World) (os : OsState) : Prop := (topF w os).map (fun s => openSeen vw lo (importedModules pw.main.body) xt true s) = some (openGood vw lo)
theorem seenQ_fast (w : World) (os : OsState) : seenQ w os = ((topF w os).map (fun s => PySem.W.Fast.tw4187177175401517315 vw lo (importedModules pw.main.body) xt true s) = some (openGood vw lo)) := by
 rw [← PySem.W.Fast.te4187177175401517315]
 rfl
noncomputable def lookQ {α : Type} (f : Frag → α) (v : α) (w : World) (os : OsState) : Prop := (topF w os).map (fun s => f (kOf s.heap)) = some v
noncomputable abbrev wF (w : World) : World := w.withFollow "special-get-raises" false
noncomputable abbrev wT (w : World) : World := w.withFollow "special-get-raises" true
theorem seenF (w : World) (os : OsState) : seenQ (wF w) os := by rw [seenQ_fast, topF_fast]; kernel_rfl
theorem seenT (w : World) (os : OsState) : seenQ (wT w) os := by rw [seenQ_fast, topF_fast]; kernel_rfl
theorem look1F (w : World) (os : OsState) : lookQ looks1 true (wF w) os := by unfold lookQ; rw [topF_fast]; kernel_rfl
theorem look1T (w : World) (os : OsState) : lookQ looks1 true (wT w) os := by unfold lookQ; rw [topF_fast]; kernel_rfl
theorem look2F (w : World) (os : OsState) : lookQ looks2 true (wF w) os := by unfold lookQ; rw [topF_fast]; kernel_rfl
theorem look2T (w : World) (os : OsState) : lookQ looks2 true (wT w) os := by unfold lookQ; rw [topF_fast]; kernel_rfl
theorem look3F (w : World) (os : OsState) : lookQ looks3 good3 (wF w) os := by unfold lookQ; rw [topF_fast]; kernel_rfl
theorem look3T (w : World) (os : OsState) : lookQ looks3 good3 (wT w) os := by unfold lookQ; rw [topF_fast]; kernel_rfl
theorem seen_all (w : World) (os : OsState) : seenQ w os := byRow2 "special-get-raises" (P := fun w => ∀ os, seenQ w os) seenF seenT w os
theorem look1 (w : World) (os : OsState) : lookQ looks1 true w os := byRow2 "special-get-raises" (P := fun w => ∀ os, lookQ looks1 true w os) look1F look1T w os
theorem look2 (w : World) (os : OsState) : lookQ looks2 true w os := byRow2 "special-get-raises" (P := fun w => ∀ os, lookQ looks2 true w os) look2F look2T w os
theorem look3 (w : World) (os : OsState) : lookQ looks3 good3 w os := byRow2 "special-get-raises" (P := fun w => ∀ os, lookQ looks3 good3 w os) look3F look3T w os
theorem look_at {α : Type} {f : Frag → α} {v : α} {w : World} {os : OsState} {s : Shared} (h : lookQ f v w os) (a : topF w os = some s) : f (kOf s.heap) = v := by
 unfold lookQ at h
 rw [a] at h
 exact Option.some.inj h
theorem left : LeftO pw vw lo xt (fun s => looks (kOf s.heap)) good 4574 true := fun w => by
 obtain ⟨os, ho⟩ := boot_pw w
 unfold openEnds
 rw [ho, Option.bind_some]
 have h1 := seen_all w os
 unfold seenQ at h1
 obtain ⟨s, a, b⟩ := Option.map_eq_some_iff.mp h1
 have e : looks (kOf s.heap) = good w := by
   unfold looks good
   rw [look_at (look1 w os) a, look_at (look2 w os) a, look_at (look3 w os) a]
 unfold topF at a
 rw [a, Option.map_some, b]
 exact congrArg (fun x => some (openGood vw lo, x)) e
end Mine
end
section
open PySem PySem.W PyProof.Rows
set_option Elab.async false
set_option maxRecDepth 100000
set_option maxHeartbeats 0
namespace Mine
theorem said : PySem.Challenge.rw_qd0142_01.wellSaid = true := by
 rw [PySem.W.Fast.te9446332074065402090]
 delta PySem.W.Fast.tw9446332074065402090
 repeat' (with_reducible refine look_both ?_ ?_)
 all_goals decide +kernel
noncomputable abbrev lrow : RowW := PySem.Challenge.rw_qd0142_01.row.toRowW
theorem wit : PySem.Challenge.rw_qd0142_01.row.toRowW.promised := by w_witness2
theorem stands : (defOf vw lrow.name).isSome = true := by kernel_rfl
noncomputable abbrev dk : DefRec × List (Str × Expr) := (defOf vw lrow.name).get stands
theorem hp : lrow.prog.theDef lrow.name = some (dk.1.params, dk.1.body, dk.1.scope) := by kernel_rfl
theorem hk : kwWritten? dk.1.params.kwonlyargs dk.1.params.kw_defaults = some dk.2 := by kernel_rfl
theorem walk_o (PL : PlainLaw) : WalkO vw lo (XL vw []) says lrow dk.1 dk.2 fun f vs => PySem.call f vs := by
 intro w s₀ s₁ mg mb G Y fa o pm cd doc dV kV ho hdt hcd hD hmg hg args vals as hpre hlay hrd hwl hlo
 obtain ⟨K, KX, KA⟩ := Y
 exact walk_of PL KA KX G.T rfl rfl rfl hmg hg hpre hwl
theorem the_law (PL : PlainLaw) : PySem.Challenge.rw_qd0142_01.Holds :=
 holds_law said fun _ => holds_open (q := vw) (loose := lo) (Xt := xt) (XP := XL vw []) (Yf := fun s => looks (kOf s.heap)) (Ya := good) (YP := says) (N := 4574) left says_of says_keeps (fun s e => xl_of s (Bool.and_eq_true_iff.mp e).1) XL.keeps (Option.some_get stands).symm hp hk (fun s e => recFacts_of (Bool.and_eq_true_iff.mp e).2) rfl (row_said said) (by decide +kernel) ⟨rfl, rfl, rfl, rfl, rfl, by decide +kernel⟩ wit (walk_o PL)
end Mine
end
section
open PySem
namespace Mine
set_option maxRecDepth 20000
set_option genInjectivity true
theorem turnW_shape (c : Loc → Mem → O V) (b : Loc → Mem → F) (l : Loc) (μ : Mem) : (∃ l₂ μ₂, ∀ k, turnW c b k l μ = k l₂ μ₂) ∨ ∃ r, ∀ k, turnW c b k l μ = r := by
 unfold turnW
 cases c l μ with
 | ok v μ₁ =>
   cases v with
   | bool t =>
     cases t with
     | false => exact .inr ⟨_, fun _ => rfl⟩
     | true =>
       have h : (∃ l₂ μ₂, ∀ k, bodyK k (b l μ₁) = k l₂ μ₂) ∨ ∃ r, ∀ k, bodyK k (b l μ₁) = r := by
         cases b l μ₁ with
         | next l₂ μ₂ => exact .inl ⟨l₂, μ₂, fun _ => rfl⟩
         | cont l₂ μ₂ => exact .inl ⟨l₂, μ₂, fun _ => rfl⟩
         | _ => exact .inr ⟨_, fun _ => rfl⟩
       exact h
   | _ => exact .inr ⟨_, fun _ => rfl⟩
 | _ => exact .inr ⟨_, fun _ => rfl⟩
section
variable {c : Loc → Mem → O V} {b : Loc → Mem → F} {n m : Nat} {l : Loc} {μ : Mem}
theorem iterW_mono (n : Nat) : ∀ (l : Loc) (μ : Mem), iterW c b n l μ ≠ .bad → iterW c b (n + 1) l μ = iterW c b n l μ := by
 induction n with
 | zero => exact fun _ _ h => absurd rfl h
 | succ n ih =>
   intro l μ h
   have h : turnW c b (iterW c b n) l μ ≠ .bad := h
   show turnW c b (iterW c b (n + 1)) l μ = turnW c b (iterW c b n) l μ
   rcases turnW_shape c b l μ with ⟨l₂, μ₂, e⟩ | ⟨r, e⟩
   · rw [e] at h; rw [e, e]; exact ih _ _ h
   · rw [e, e]
theorem iterW_le (h : iterW c b n l μ ≠ .bad) (hm : n ≤ m) : iterW c b m l μ = iterW c b n l μ := by
 induction hm with
 | refl => rfl
 | step _ ih => rw [iterW_mono _ l μ (by rw [ih]; exact h), ih]
theorem loopW_eq (h : iterW c b n l μ ≠ .bad) : loopW c b l μ = iterW c b n l μ := by
 have hex : ∃ n, iterW c b n l μ ≠ .bad := ⟨n, h⟩
 unfold loopW
 rw [dif_pos hex]
 rcases Nat.le_total n hex.choose with q | q
 · exact iterW_le h q
 · exact (iterW_le hex.choose_spec q).symm
theorem loopW_bad (h : ∀ n, iterW c b n l μ = .bad) : loopW c b l μ = .bad := dif_neg fun ⟨n, hn⟩ => hn (h n)
theorem loopW_turn (c : Loc → Mem → O V) (b : Loc → Mem → F) (l : Loc) (μ : Mem) : loopW c b l μ = turnW c b (loopW c b) l μ := by
 by_cases h : ∃ n, iterW c b n l μ ≠ .bad
 · obtain ⟨n, hn⟩ := h
   rw [loopW_eq hn]
   cases n with
   | zero => exact absurd rfl hn
   | succ n =>
     have hn : turnW c b (iterW c b n) l μ ≠ .bad := hn
     show turnW c b (iterW c b n) l μ = _
     rcases turnW_shape c b l μ with ⟨l₂, μ₂, e⟩ | ⟨r, e⟩
     · rw [e] at hn; rw [e, e]; exact (loopW_eq hn).symm
     · rw [e, e]
 · have hb : ∀ n, iterW c b n l μ = .bad := fun n => Classical.byContradiction fun q => h ⟨n, q⟩
   rw [loopW_bad hb]
   have h1 : ∀ n, turnW c b (iterW c b n) l μ = .bad := fun n => hb (n + 1)
   rcases turnW_shape c b l μ with ⟨l₂, μ₂, e⟩ | ⟨r, e⟩
   · rw [e]; exact (loopW_bad fun n => (e _).symm.trans (h1 n)).symm
   · rw [e]; exact (h1 0).symm.trans (e _)
end
theorem evCall_succ {d f : Nat} {fn : Fn} {args : List V} {μ : Mem} (h : fnTab[f]? = some fn) : evCall fnTab (d + 1) f args μ = runFn (evCall fnTab d) fn args μ := by
 show (match fnTab[f]? with | some fn => runFn (evCall fnTab d) fn args μ | Option.none => .bad) = _
 rw [h]
section lib
variable {Φ : OK} {l : Loc} {μ : Mem}
@[simp] theorem ob_ok {α β : Type} (a : α) (μ : Mem) (f : α → Mem → O β) : B2 f (O.ok a μ) = f a μ := rfl
@[simp] theorem ob_exc {α β : Type} (μ : Mem) (f : α → Mem → O β) : B2 f (O.exc μ : O α) = .exc μ := rfl
@[simp] theorem of_ok {α : Type} (l : Loc) (a : α) (μ : Mem) (k : α → Mem → F) : of2 l k (.ok a μ) = k a μ := rfl
@[simp] theorem of_exc {α : Type} (l : Loc) (μ : Mem) (k : α → Mem → F) : of2 l k (.exc μ : O α) = .exc l μ := rfl
@[simp] theorem ob_ok1 {α β : Type} (a : α) (μ : Mem) (f : α → Mem → O β) : B1 f (O.ok a μ) = f a μ := rfl
@[simp] theorem ob_exc1 {α β : Type} (μ : Mem) (f : α → Mem → O β) : B1 f (O.exc μ : O α) = .exc μ := rfl
@[simp] theorem of_ok1 {α : Type} (l : Loc) (a : α) (μ : Mem) (k : α → Mem → F) : of1 l k (.ok a μ) = k a μ := rfl
@[simp] theorem of_exc1 {α : Type} (l : Loc) (μ : Mem) (k : α → Mem → F) : of1 l k (.exc μ : O α) = .exc l μ := rfl
@[simp] theorem ob_ok0 {α β : Type} (a : α) (μ : Mem) (f : α → Mem → O β) : B0 f (O.ok a μ) = f a μ := (rfl)
@[simp] theorem ob_exc0 {α β : Type} (μ : Mem) (f : α → Mem → O β) : B0 f (O.exc μ : O α) = .exc μ := (rfl)
@[simp] theorem of_ok0 {α : Type} (l : Loc) (a : α) (μ : Mem) (k : α → Mem → F) : of0 l k (.ok a μ) = k a μ := (rfl)
@[simp] theorem of_exc0 {α : Type} (l : Loc) (μ : Mem) (k : α → Mem → F) : of0 l k (.exc μ : O α) = .exc l μ := (rfl)
@[simp] theorem ol_some {α : Type} (a : α) (μ : Mem) : O.lift (some a) μ = .ok a μ := rfl
@[simp] theorem boolK_t (x y : O V) : boolK x y (.bool true) = x := (rfl)
@[simp] theorem boolK_f (x y : O V) : boolK x y (.bool false) = y := (rfl)
@[simp] theorem boolF_t (x y : F) : boolF x y (.bool true) = x := (rfl)
@[simp] theorem boolF_f (x y : F) : boolF x y (.bool false) = y := (rfl)
@[simp] theorem chainK_t (x y : O V) : chainK x y (some true) = x := (rfl)
@[simp] theorem chainK_f (x y : O V) : chainK x y (some false) = y := (rfl)
@[simp low] theorem boolK_b (b : Bool) (x y : O V) : boolK x y (.bool b) = if b = true then x else y := by cases b <;> rfl
@[simp low] theorem boolF_b (b : Bool) (x y : F) : boolF x y (.bool b) = if b = true then x else y := by cases b <;> rfl
@[simp low] theorem chainK_s (b : Bool) (x y : O V) : chainK x y (some b) = if b = true then x else y := by cases b <;> rfl
@[simp] theorem seqK_next (l : Loc) (μ : Mem) (k : Loc → Mem → F) : seqK k (.next l μ) = k l μ := (rfl)
@[simp] theorem seqK_ret (v : V) (μ : Mem) (k : Loc → Mem → F) : seqK k (.ret v μ) = .ret v μ := (rfl)
@[simp] theorem seqK_exc (l : Loc) (μ : Mem) (k : Loc → Mem → F) : seqK k (.exc l μ) = .exc l μ := (rfl)
@[simp] theorem seqK_brk (l : Loc) (μ : Mem) (k : Loc → Mem → F) : seqK k (.brk l μ) = .brk l μ := (rfl)
@[simp] theorem seqK_cont (l : Loc) (μ : Mem) (k : Loc → Mem → F) : seqK k (.cont l μ) = .cont l μ := (rfl)
@[simp] theorem finK_ret (v : V) (μ : Mem) : finK (.ret v μ) = .ok v μ := rfl
@[simp] theorem finK_next (l : Loc) (μ : Mem) : finK (.next l μ) = .ok .none μ := rfl
@[simp] theorem finK_exc (l : Loc) (μ : Mem) : finK (.exc l μ) = .exc μ := rfl
@[simp] theorem negK_i (i : Int) (μ : Mem) : negK (.int i) μ = .ok (.int (-i)) μ := rfl
@[simp] theorem notK_b (b : Bool) (μ : Mem) : notK (.bool b) μ = .ok (.bool (!b)) μ := rfl
@[simp] theorem optF_s {α : Type} (a : α) (k : α → F) : optF k (some a) = k a := rfl
@[simp] theorem raiseK_s (s : List Nat) (l : Loc) (μ : Mem) : raiseK (.str s) l μ = .exc l μ := rfl
@[simp] theorem rangeK_i (n : Int) (k : Int → F) : rangeK (.int n) k = k n := (rfl)
section
variable {p : Prop} [Decidable p]
@[simp] theorem ob_ite {α β : Type} (x y : O α) (f : α → Mem → O β) : B2 f (if p then x else y) = if p then B2 f x else B2 f y := by split <;> rfl
@[simp] theorem of_ite {α : Type} (l : Loc) (x y : O α) (k : α → Mem → F) : of2 l k (if p then x else y) = if p then of2 l k x else of2 l k y := by split <;> rfl
@[simp] theorem seqK_ite (x y : F) (k : Loc → Mem → F) : seqK k (if p then x else y) = if p then seqK k x else seqK k y := by split <;> rfl
@[simp] theorem finK_ite (x y : F) : finK (if p then x else y) = if p then finK x else finK y := by split <;> rfl
@[simp] theorem ite_and' (b : Bool) (μ : Mem) : (if p then O.ok (V.bool b) μ else .ok (.bool false) μ) = .ok (.bool (decide p && b)) μ := by by_cases h : p <;> simp [h]
@[simp] theorem ite_or' (b : Bool) (μ : Mem) : (if p then O.ok (V.bool true) μ else .ok (.bool b) μ) = .ok (.bool (decide p || b)) μ := by by_cases h : p <;> simp [h]
end
section
variable {α : Type}
@[simp] theorem onInt_i (i : Int) (f : Int → Option α) : onInt (.int i) f = f i := rfl
@[simp] theorem onBool_b (i : Bool) (f : Bool → Option α) : onBool (.bool i) f = f i := rfl
@[simp] theorem onStr_s (i : List Nat) (f : List Nat → Option α) : onStr (.str i) f = f i := rfl
@[simp] theorem onIl_l (i : List V) (f : List V → Option α) : onIl (.il i) f = f i := rfl
@[simp] theorem onRef_r (i : Nat) (f : Nat → Option α) : onRef (.ref i) f = f i := rfl
@[simp] theorem onNone_n (r : Option α) : onNone .none r = r := rfl
@[simp] theorem one_1 (v : V) (f : V → Option α) : one [v] f = f v := rfl
@[simp] theorem two_2 (v u : V) (f : V → V → Option α) : two [v, u] f = f v u := rfl
@[simp] theorem sign_1 (c : Nat) (f : Nat → Option α) : sign [c] f = f c := rfl
@[simp] theorem when_r (p : Prop) [Decidable p] (a : α) : when p a = if p then some a else Option.none := rfl
end
@[simp] theorem le_ss (a b : Nat) : leV (.str [a]) (.str [b]) = some (decide (a ≤ b)) := rfl
@[simp] theorem bin_add_ii (a b : Int) : binV .add (.int a) (.int b) = some (.int (a + b)) := rfl
@[simp] theorem bin_sub_ii (a b : Int) : binV .sub (.int a) (.int b) = some (.int (a - b)) := rfl
@[simp] theorem bin_xor_ii (a b : Int) : binV .xor (.int a) (.int b) = some (.int (Builtin.bitXor a b)) := rfl
theorem bin_add_ss {a b : List Nat} (h : a.length + b.length ≤ LIM) : binV .add (.str a) (.str b) = some (.str (a ++ b)) := (if_pos h)
theorem bin_add_ll {a b : List V} (h : a.length + b.length ≤ LIM) : binV .add (.il a) (.il b) = some (.il (a ++ b)) := (if_pos h)
theorem bin_mod_ii {a b : Int} (h : 0 < b) : binV .mod (.int a) (.int b) = some (.int (a % b)) := (if_pos h)
theorem bin_mul_ii {a b : Int} (h : a.natAbs < 2 ^ 40) (h' : b.natAbs < 2 ^ 40) : binV .mul (.int a) (.int b) = some (.int (a * b)) := if_pos ⟨h, h'⟩
@[simp] theorem aug_add_ii (a b : Int) : augV .add (.int a) (.int b) = some (.int (a + b)) := rfl
@[simp] theorem aug_sub_ii (a b : Int) : augV .sub (.int a) (.int b) = some (.int (a - b)) := rfl
theorem aug_add_ss {a b : List Nat} (h : a.length + b.length ≤ LIM) : augV .add (.str a) (.str b) = some (.str (a ++ b)) := (if_pos h)
@[simp] theorem cmp_eq_ss (a b : List Nat) : cmpV μ .eq (.str a) (.str b) = some (a == b) := rfl
@[simp] theorem cmp_ne_ss (a b : List Nat) : cmpV μ .ne (.str a) (.str b) = some (!(a == b)) := rfl
@[simp] theorem cmp_eq_ii (a b : Int) : cmpV μ .eq (.int a) (.int b) = some (a == b) := rfl
@[simp] theorem cmp_ne_ii (a b : Int) : cmpV μ .ne (.int a) (.int b) = some (!(a == b)) := rfl
@[simp] theorem cmp_eq_bb (a b : Bool) : cmpV μ .eq (.bool a) (.bool b) = some (a == b) := rfl
@[simp] theorem cmp_ne_bb (a b : Bool) : cmpV μ .ne (.bool a) (.bool b) = some (!(a == b)) := rfl
@[simp] theorem cmp_lt_ii (a b : Int) : cmpV μ .lt (.int a) (.int b) = some (decide (a < b)) := rfl
@[simp] theorem cmp_gt_ii (a b : Int) : cmpV μ .gt (.int a) (.int b) = some (decide (b < a)) := rfl
@[simp] theorem cmp_ge_ii (a b : Int) : cmpV μ .ge (.int a) (.int b) = some (decide (b ≤ a)) := rfl
@[simp] theorem cmp_in_cs (c : Nat) (s : List Nat) : cmpV μ .isIn (.str [c]) (.str s) = some (s.contains c) := rfl
@[simp] theorem cmp_in_es (s : List Nat) : cmpV μ .isIn (.str []) (.str s) = some true := rfl
theorem cmp_in_st (a : List Nat) (vs : List V) : cmpV μ .isIn (.str a) (.tup vs) = (strsOf vs).map fun l => l.contains a := rfl
@[simp] theorem bi_len_s (s : List Nat) : biV μ .len [.str s] = some (.int s.length) := rfl
@[simp] theorem bi_len_l (s : List V) : biV μ .len [.il s] = some (.int s.length) := rfl
theorem bi_len_r {i : Nat} {vs : List V} (h : μ[i]? = some vs) : biV μ .len [.ref i] = some (.int vs.length) := by show (μ[i]?).map _ = _; rw [h]; rfl
@[simp] theorem bi_ord (c : Nat) : biV μ .ord [.str [c]] = some (.int c) := rfl
theorem bi_chr {n : Nat} (h : n ≤ 1114111) : biV μ .chr [.int (n : Nat)] = some (.str [n]) := by
 show (if _ then _ else _) = _
 rw [if_pos ⟨by lia, by lia⟩]; rfl
theorem bi_chr_i {i : Int} (h : 0 ≤ i) (h' : i ≤ 1114111) : biV μ .chr [.int i] = some (.str [i.toNat]) := if_pos ⟨h, h'⟩
theorem bi_str {i : Int} (h : 0 ≤ i) (h' : i < 100) : biV μ .str [.int i] = some (.str (digitsOf i.toNat)) := if_pos ⟨h, h'⟩
@[simp] theorem bi_min (a b : Int) : biV μ .min [.int a, .int b] = some (.int (if b < a then b else a)) := rfl
@[simp] theorem binK2_r (op : Bop) (x : V) (y : V) (μ : Mem) : binK2 op x y μ = O.lift (binV op x y) μ := rfl
@[simp] theorem binK_r (op : Bop) (g : SemE) (l : Loc) (x : V) (μ : Mem) : binK op g l x μ = B1 (binK2 op x) (g l μ) := rfl
@[simp] theorem cmpK2_r (op : Cop) (x : V) (y : V) (μ : Mem) : cmpK2 op x y μ = O.lift ((cmpV μ op x y).map V.bool) μ := rfl
@[simp] theorem cmpK_r (op : Cop) (g : SemE) (l : Loc) (x : V) (μ : Mem) : cmpK op g l x μ = B1 (cmpK2 op x) (g l μ) := rfl
@[simp] theorem chK3_r (y : V) (z : V) (μ : Mem) : chK3 y z μ = O.lift ((leV y z).map V.bool) μ := rfl
@[simp] theorem chK2_r (h : SemE) (l : Loc) (x : V) (y : V) (μ : Mem) : chK2 h l x y μ = chainK (B0 (chK3 y) (h l μ)) (.ok (.bool false) μ) (leV x y) := rfl
@[simp] theorem chK_r (g h : SemE) (l : Loc) (x : V) (μ : Mem) : chK g h l x μ = B1 (chK2 h l x) (g l μ) := rfl
@[simp] theorem tupK_r  (vs : List V) (μ : Mem) : tupK vs μ = .ok (.tup vs) μ := rfl
@[simp] theorem ilK_r  (vs : List V) (μ : Mem) : ilK vs μ = .ok (.il vs) μ := rfl
@[simp] theorem idxK2_r (x : V) (y : V) (μ : Mem) : idxK2 x y μ = O.lift (idxV μ x y) μ := rfl
@[simp] theorem idxK_r (g : SemE) (l : Loc) (x : V) (μ : Mem) : idxK g l x μ = B1 (idxK2 x) (g l μ) := rfl
@[simp] theorem slK3_r (x y : V) (z : V) (μ : Mem) : slK3 x y z μ = O.lift (sliceV x y z) μ := rfl
@[simp] theorem slK2_r (h : SemE) (l : Loc) (x : V) (y : V) (μ : Mem) : slK2 h l x y μ = B0 (slK3 x y) (h l μ) := rfl
@[simp] theorem slK_r (g h : SemE) (l : Loc) (x : V) (μ : Mem) : slK g h l x μ = B1 (slK2 h l x) (g l μ) := rfl
@[simp] theorem biK_r (b : Bi) (vs : List V) (μ : Mem) : biK b vs μ = O.lift (biV μ b vs) μ := rfl
@[simp] theorem meK2_r (m : Me) (x : V) (vs : List V) (μ : Mem) : meK2 m x vs μ = methV μ m x vs := rfl
@[simp] theorem meK_r (m : Me) (g : SemEs) (l : Loc) (x : V) (μ : Mem) : meK m g l x μ = if okMe m x then B1 (meK2 m x) (g l μ) else .bad := rfl
@[simp] theorem inEscK_r  (x : V) (μ : Mem) : inEscK x μ = O.lift ((isEsc x).map V.bool) μ := rfl
@[simp] theorem getEscK_r  (x : V) (μ : Mem) : getEscK x μ = O.lift ((escV x).map fun c => V.str [c]) μ := rfl
@[simp] theorem closerK_r  (x : V) (μ : Mem) : closerK x μ = O.lift (closerV x) μ := rfl
@[simp] theorem consK2_r (v : V) (vs : List V) (μ : Mem) : consK2 v vs μ = .ok (v :: vs) μ := rfl
@[simp] theorem consK_r (g : SemEs) (l : Loc) (v : V) (μ : Mem) : consK g l v μ = B1 (consK2 v) (g l μ) := rfl
@[simp] theorem asK_r (l : Loc) (i : Nat) (v : V) (μ : Mem) : asK l i v μ = .next (l.set i (some v)) μ := rfl
@[simp] theorem nextK_r (μ : Mem) (l : Loc) : nextK μ l = .next l μ := rfl
@[simp] theorem asTK2_r (l : Loc) (is : List Nat) (μ : Mem) (vs : List V) : asTK2 l is μ vs = optF (nextK μ) (setAll l is vs) := rfl
@[simp] theorem asTK_r (l : Loc) (is : List Nat) (v : V) (μ : Mem) : asTK l is v μ = optF (asTK2 l is μ) (unpackV v) := rfl
@[simp] theorem siK3_r (l : Loc) (v x : V) (y : V) (μ : Mem) : siK3 l v x y μ = optF (F.next l) (putV μ x y v) := rfl
@[simp] theorem siK2_r (g : SemE) (l : Loc) (v : V) (x : V) (μ : Mem) : siK2 g l v x μ = of0 l (siK3 l v x) (g l μ) := rfl
@[simp] theorem siK_r (f g : SemE) (l : Loc) (v : V) (μ : Mem) : siK f g l v μ = of1 l (siK2 g l v) (f l μ) := rfl
@[simp] theorem augK3_r (l : Loc) (i : Nat) (μ : Mem) (new : V) : augK3 l i μ new = .next (l.set i (some new)) μ := rfl
@[simp] theorem augK2_r (l : Loc) (i : Nat) (op : Bop) (old : V) (v : V) (μ : Mem) : augK2 l i op old v μ = optF (augK3 l i μ) (augV op old v) := rfl
@[simp] theorem augK_r (l : Loc) (i : Nat) (op : Bop) (g : SemE) (μ : Mem) (old : V) : augK l i op g μ old = of1 l (augK2 l i op old) (g l μ) := rfl
@[simp] theorem exK_r (l : Loc) (v : V) (μ : Mem) : exK l v μ = .next l μ := rfl
@[simp] theorem apK2_r (l : Loc) (x : V) (v : V) (μ : Mem) : apK2 l x v μ = optF (F.next l) (appendV μ x v) := rfl
@[simp] theorem apK_r (g : SemE) (l : Loc) (x : V) (μ : Mem) : apK g l x μ = if okMe .pop x then of1 l (apK2 l x) (g l μ) else .bad := rfl
@[simp] theorem iteK_t (f g : SemE) (l : Loc) (μ : Mem) : iteK f g l (.bool true) μ = f l μ := (rfl)
@[simp] theorem iteK_f (f g : SemE) (l : Loc) (μ : Mem) : iteK f g l (.bool false) μ = g l μ := (rfl)
@[simp low] theorem iteK_r (f g : SemE) (l : Loc) (c : Bool) (μ : Mem) : iteK f g l (.bool c) μ = if c = true then f l μ else g l μ := boolK_b c _ _
@[simp] theorem andK_t (g : SemE) (l : Loc) (μ : Mem) : andK g l (.bool true) μ = g l μ := (rfl)
@[simp] theorem andK_f (g : SemE) (l : Loc) (μ : Mem) : andK g l (.bool false) μ = .ok (.bool false) μ := (rfl)
@[simp low] theorem andK_r (g : SemE) (l : Loc) (c : Bool) (μ : Mem) : andK g l (.bool c) μ = if c = true then g l μ else .ok (.bool false) μ := boolK_b c _ _
@[simp] theorem orK_t (g : SemE) (l : Loc) (μ : Mem) : orK g l (.bool true) μ = .ok (.bool true) μ := (rfl)
@[simp] theorem orK_f (g : SemE) (l : Loc) (μ : Mem) : orK g l (.bool false) μ = g l μ := (rfl)
@[simp low] theorem orK_r (g : SemE) (l : Loc) (c : Bool) (μ : Mem) : orK g l (.bool c) μ = if c = true then .ok (.bool true) μ else g l μ := boolK_b c _ _
@[simp] theorem sitK_t (a b : SemF) (l : Loc) (μ : Mem) : sitK a b l (.bool true) μ = a l μ := (rfl)
@[simp] theorem sitK_f (a b : SemF) (l : Loc) (μ : Mem) : sitK a b l (.bool false) μ = b l μ := (rfl)
@[simp low] theorem sitK_r (a b : SemF) (l : Loc) (c : Bool) (μ : Mem) : sitK a b l (.bool c) μ = if c = true then a l μ else b l μ := boolF_b c _ _
@[simp] theorem raK_r (l : Loc) (s : List Nat) (μ : Mem) : raK l (.str s) μ = .exc l μ := rfl
@[simp] theorem loc0 (v : V) (l : Loc) : xE Φ (.loc 0) (some v :: l) μ = .ok v μ := rfl
@[simp] theorem loc1 (a0 : Option V) (v : V) (l : Loc) : xE Φ (.loc 1) (a0 :: some v :: l) μ = .ok v μ := rfl
@[simp] theorem loc2 (a0 a1 : Option V) (v : V) (l : Loc) : xE Φ (.loc 2) (a0 :: a1 :: some v :: l) μ = .ok v μ := rfl
@[simp] theorem loc3 (a0 a1 a2 : Option V) (v : V) (l : Loc) : xE Φ (.loc 3) (a0 :: a1 :: a2 :: some v :: l) μ = .ok v μ := rfl
@[simp] theorem loc4 (a0 a1 a2 a3 : Option V) (v : V) (l : Loc) : xE Φ (.loc 4) (a0 :: a1 :: a2 :: a3 :: some v :: l) μ = .ok v μ := rfl
@[simp] theorem loc5 (a0 a1 a2 a3 a4 : Option V) (v : V) (l : Loc) : xE Φ (.loc 5) (a0 :: a1 :: a2 :: a3 :: a4 :: some v :: l) μ = .ok v μ := rfl
@[simp] theorem loc6 (a0 a1 a2 a3 a4 a5 : Option V) (v : V) (l : Loc) : xE Φ (.loc 6) (a0 :: a1 :: a2 :: a3 :: a4 :: a5 :: some v :: l) μ = .ok v μ := rfl
@[simp] theorem loc7 (a0 a1 a2 a3 a4 a5 a6 : Option V) (v : V) (l : Loc) : xE Φ (.loc 7) (a0 :: a1 :: a2 :: a3 :: a4 :: a5 :: a6 :: some v :: l) μ = .ok v μ := rfl
@[simp] theorem loc8 (a0 a1 a2 a3 a4 a5 a6 a7 : Option V) (v : V) (l : Loc) : xE Φ (.loc 8) (a0 :: a1 :: a2 :: a3 :: a4 :: a5 :: a6 :: a7 :: some v :: l) μ = .ok v μ := rfl
@[simp] theorem loc9 (a0 a1 a2 a3 a4 a5 a6 a7 a8 : Option V) (v : V) (l : Loc) : xE Φ (.loc 9) (a0 :: a1 :: a2 :: a3 :: a4 :: a5 :: a6 :: a7 :: a8 :: some v :: l) μ = .ok v μ := rfl
@[simp] theorem loc10 (a0 a1 a2 a3 a4 a5 a6 a7 a8 a9 : Option V) (v : V) (l : Loc) : xE Φ (.loc 10) (a0 :: a1 :: a2 :: a3 :: a4 :: a5 :: a6 :: a7 :: a8 :: a9 :: some v :: l) μ = .ok v μ := rfl
@[simp] theorem un_tup (vs : List V) : unpackV (.tup vs) = some vs := rfl
@[simp] theorem un_il (vs : List V) : unpackV (.il vs) = some vs := rfl
@[simp] theorem st_nil (l : Loc) : setAll l [] [] = some l := rfl
@[simp] theorem st_cons (l : Loc) (i : Nat) (is : List Nat) (v : V) (vs : List V) : setAll l (i :: is) (v :: vs) = setAll (l.set i (some v)) is vs := rfl
theorem run_fn {fn : Fn} {args : List V} {r : O V} (h : args.length = fn.np) (e : finK (xSs Φ fn.body (args.map some ++ List.replicate (fn.names.length - fn.np) Option.none) μ) = r) : runFn Φ fn args μ = r := (if_pos h).trans e
noncomputable def numK (n : Nat) (μ : Mem) (m : Nat) : O V := .ok (.int ((n + m : Nat))) μ
theorem lift_ok {o : Option V} {v : V} (h : o = some v) : O.lift o μ = .ok v μ := congrArg (fun o => O.lift o μ) h
section
variable {β : Type} {P : F → β} {r : β} {μ' : Mem} {ss : Ss} {e : E} {v : V}
theorem z_as {i : Nat} (h : xE Φ e l μ = .ok v μ') (g : P (xSs Φ ss (l.set i (some v)) μ') = r) : P (xSs Φ (.cons (.assign i e) ss) l μ) = r := by
 rw [ss_cons, s_assign, h]; exact g
theorem z_asT {is : List Nat} {vs : List V} {l' : Loc} (h : xE Φ e l μ = .ok (.tup vs) μ') (k : setAll l is vs = some l') (g : P (xSs Φ ss l' μ') = r) : P (xSs Φ (.cons (.assignT is e) ss) l μ) = r := by
 rw [ss_cons, s_assignT, h, of_ok]
 show P (seqK _ (optF _ (setAll l is vs))) = _
 rw [k]; exact g
theorem z_ex (h : xE Φ e l μ = .ok v μ') (g : P (xSs Φ ss l μ') = r) : P (xSs Φ (.cons (.expr e) ss) l μ) = r := by
 rw [ss_cons, s_expr, h]; exact g
theorem z_ret (h : xE Φ e l μ = .ok v μ') (g : P (.ret v μ') = r) : P (xSs Φ (.cons (.ret e) ss) l μ) = r := by
 rw [ss_cons, s_ret, h]; exact g
theorem z_retx (h : xE Φ e l μ = .exc μ') (g : P (.exc l μ') = r) : P (xSs Φ (.cons (.ret e) ss) l μ) = r := by
 rw [ss_cons, s_ret, h]; exact g
noncomputable def sQ (P : F → β) (Φ : OK) (ss : Ss) (x : F) : β := P (seqK (xSs Φ ss) x)
theorem z_nq (g : P (xSs Φ ss l μ) = r) : sQ P Φ ss (xSs Φ .nil l μ) = r := g
theorem z_nil (g : P (.next l μ) = r) : P (xSs Φ .nil l μ) = r := g
section
variable {a b : Ss}
theorem z_t (h : xE Φ e l μ = .ok (.bool true) μ') (g : sQ P Φ ss (xSs Φ a l μ') = r) : P (xSs Φ (.cons (.ite e a b) ss) l μ) = r := by
 rw [ss_cons, s_ite, h, of_ok, sitK_t]; exact g
theorem z_f (h : xE Φ e l μ = .ok (.bool false) μ') (g : P (xSs Φ ss l μ') = r) : P (xSs Φ (.cons (.ite e a .nil) ss) l μ) = r := by
 rw [ss_cons, s_ite, h, of_ok, sitK_f]; exact g
theorem z_e (h : xE Φ e l μ = .ok (.bool false) μ') (g : sQ P Φ ss (xSs Φ b l μ') = r) : P (xSs Φ (.cons (.ite e a b) ss) l μ) = r := by
 rw [ss_cons, s_ite, h, of_ok, sitK_f]; exact g
theorem z_ite {α : Type} {k : α → β} {p : Prop} [Decidable p] {c : Bool} {x y : α} (h : xE Φ e l μ = .ok (.bool c) μ') (hc : c = decide p) (t : p → sQ P Φ ss (xSs Φ a l μ') = k x) (f : ¬ p → P (xSs Φ ss l μ') = k y) : P (xSs Φ (.cons (.ite e a .nil) ss) l μ) = k (if p then x else y) := by
 subst hc
 by_cases q : p
 · rw [if_pos q]; rw [decide_eq_true q] at h; exact z_t h (t q)
 · rw [if_neg q]; rw [decide_eq_false q] at h; exact z_f h (f q)
end
theorem x_and2 {a b : E} {p q : Bool} (h : xE Φ a l μ = .ok (.bool p) μ) (h' : xE Φ b l μ = .ok (.bool q) μ) : xE Φ (.and (.cons a (.cons b .nil))) l μ = .ok (.bool (p && q)) μ := by
 rw [e_and, ea_cons, h, ob_ok]
 cases p with
 | false => rfl
 | true => rw [andK_t, ea_cons, h']; cases q <;> rfl
theorem x_or2 {a b : E} {p q : Bool} (h : xE Φ a l μ = .ok (.bool p) μ) (h' : xE Φ b l μ = .ok (.bool q) μ) : xE Φ (.or (.cons a (.cons b .nil))) l μ = .ok (.bool (p || q)) μ := by
 rw [e_or, eo_cons, h, ob_ok]
 cases p with
 | true => rfl
 | false => rw [orK_f, eo_cons, h']; cases q <;> rfl
theorem x_tup2 {a b : E} {x y : V} {μ₁ μ₂ : Mem} (h : xE Φ a l μ = .ok x μ₁) (h' : xE Φ b l μ₁ = .ok y μ₂) : xE Φ (.tup (.cons a (.cons b .nil))) l μ = .ok (.tup [x, y]) μ₂ := by
 rw [e_tup, es_cons, h, ob_ok, consK_r, es_cons, h']; rfl
theorem x_ne {a : E} {t w : List Nat} (g : xE Φ a l μ = .ok (.str t) μ) : xE Φ (.cmp .ne a (.str w)) l μ = .ok (.bool (!(t == w))) μ := by
 rw [e_cmp, g]; rfl
theorem x_in {a b : E} {c : Nat} {w : List Nat} (g : xE Φ a l μ = .ok (.str [c]) μ) (h : xE Φ b l μ = .ok (.str w) μ) : xE Φ (.cmp .isIn a b) l μ = .ok (.bool (w.contains c)) μ := by
 rw [e_cmp, g, ob_ok, cmpK_r, h]; rfl
theorem x_not {a : E} {c : Bool} (g : xE Φ a l μ = .ok (.bool c) μ) : xE Φ (.not a) l μ = .ok (.bool (!c)) μ := by
 rw [e_not, g]; rfl
theorem x_chain {a b c : E} {x y z : Nat} (h : xE Φ a l μ = .ok (.str [x]) μ) (h' : xE Φ b l μ = .ok (.str [y]) μ) (k : xE Φ c l μ = .ok (.str [z]) μ) : xE Φ (.chain a b c) l μ = .ok (.bool (decide (x ≤ y) && decide (y ≤ z))) μ := by
 rw [e_chain, h, ob_ok, chK_r, h', ob_ok1, chK2_r, le_ss, k]
 cases decide (x ≤ y) <;> rfl
theorem x_and3 {a b c : E} {p q t : Bool} (h : xE Φ a l μ = .ok (.bool p) μ) (h' : xE Φ b l μ = .ok (.bool q) μ) (k : xE Φ c l μ = .ok (.bool t) μ) : xE Φ (.and (.cons a (.cons b (.cons c .nil)))) l μ = .ok (.bool (p && (q && t))) μ := by
 rw [e_and, ea_cons, h, ob_ok]
 cases p with
 | false => rfl
 | true => rw [andK_t]; exact (x_and2 h' k : xE Φ (.and (.cons b (.cons c .nil))) l μ = .ok (.bool (q && t)) μ)
theorem x_ite {α : Type} {k : α → O V} {a b c : E} {p : Prop} [Decidable p] {t : Bool} {x y : α} (h : xE Φ c l μ = .ok (.bool t) μ') (hc : t = decide p) (ha : p → xE Φ a l μ' = k x) (hb : ¬ p → xE Φ b l μ' = k y) : xE Φ (.ite c a b) l μ = k (if p then x else y) := by
 rw [e_ite, h, ob_ok]
 by_cases q : p
 · rw [hc, decide_eq_true q, if_pos q, iteK_t]; exact ha q
 · rw [hc, decide_eq_false q, if_neg q, iteK_f]; exact hb q
theorem z_st {s : S} {l' : Loc} (h : xS Φ s l μ = .next l' μ') (g : P (xSs Φ ss l' μ') = r) : P (xSs Φ (.cons s ss) l μ) = r := by
 rw [ss_cons, h]; exact g
theorem eq_dec (c k : Nat) : ([c] == [k]) = decide (c = k) := by
 show ((c == k) && true) = _
 rw [Bool.and_true]; rfl
theorem eqs_dec (t w : List Nat) : (t == w) = decide (t = w) := Bool.eq_iff_iff.mpr (beq_iff_eq.trans decide_eq_true_iff.symm)
theorem has_2 (a b c : Nat) : [a, b].contains c = (decide (c = a) || decide (c = b)) := by
 show (match decide (c = a) with | true => true | false => (match decide (c = b) with | true => true | false => false)) = _
 cases decide (c = a) <;> cases decide (c = b) <;> rfl
theorem x_eq {a : E} {t w : List Nat} (g : xE Φ a l μ = .ok (.str t) μ) : xE Φ (.cmp .eq a (.str w)) l μ = .ok (.bool (t == w)) μ := by
 rw [e_cmp, g]; rfl
theorem x_andF {a : E} {es : Es} (h : xE Φ a l μ = .ok (.bool false) μ') : xE Φ (.and (.cons a es)) l μ = .ok (.bool false) μ' := by
 rw [e_and, ea_cons, h]; rfl
theorem x_andT {a : E} {es : Es} {r : O V} (h : xE Φ a l μ = .ok (.bool true) μ') (g : xE Φ (.and es) l μ' = r) : xE Φ (.and (.cons a es)) l μ = r := by
 rw [e_and, ea_cons, h]; exact g
theorem x_and1 {a : E} {c : Bool} (h : xE Φ a l μ = .ok (.bool c) μ') : xE Φ (.and (.cons a .nil)) l μ = .ok (.bool c) μ' := by
 rw [e_and, ea_cons, h]; cases c <;> rfl
theorem s_put {a i : E} {x y : V} {μ₁ μ₂ μ₃ : Mem} (he : xE Φ e l μ = .ok v μ₁) (ha : xE Φ a l μ₁ = .ok x μ₂) (hi : xE Φ i l μ₂ = .ok y μ₃) (hp : putV μ₃ x y v = some μ') : xS Φ (.setIdx a i e) l μ = .next l μ' := by
 rw [s_setIdx, he, of_ok, siK_r, ha, of_ok1, siK2_r, hi, of_ok0, siK3_r, hp, optF_s]
theorem s_app {a : E} {x : Nat} {μ₁ μ₂ : Mem} (ha : xE Φ a l μ = .ok (.ref x) μ₁) (he : xE Φ e l μ₁ = .ok v μ₂) (hp : appendV μ₂ (.ref x) v = some μ') : xS Φ (.append a e) l μ = .next l μ' := by
 rw [s_append, ha, of_ok, apK_r]
 show of1 l _ _ = _
 rw [he, of_ok1, apK2_r, hp, optF_s]
theorem s_aug' {i : Nat} {op : Bop} {old new : V} (hl : (l[i]?).join = some old) (h : xE Φ e l μ = .ok v μ') (ha : augV op old v = some new) : xS Φ (.aug i op e) l μ = .next (l.set i (some new)) μ' := by
 rw [s_aug, hl, optF_s, augK_r, h, of_ok1, augK2_r, ha, optF_s]; rfl
theorem x_me1 {a b : E} {x y : V} {m : Me} {μ₁ : Mem} (h : xE Φ a l μ = .ok x μ₁) (hm : okMe m x = true) (h' : xE Φ b l μ₁ = .ok y μ') (k : meV μ' m x [y] = some v) (hp : ∀ ys, methV μ' m x ys = O.lift (meV μ' m x ys) μ') : xE Φ (.me m a (.cons b .nil)) l μ = .ok v μ' := by
 rw [e_me, h, ob_ok, meK_r, if_pos hm, es_cons, h']
 show methV μ' m x [y] = _
 rw [hp, k]; rfl
theorem z_s {s : S} {w : F} (h : xS Φ s l μ = w) (g : P (seqK (xSs Φ ss) w) = r) : P (xSs Φ (.cons s ss) l μ) = r := by
 rw [ss_cons, h]; exact g
theorem z_asL {is : List Nat} {vs : List V} {l' : Loc} (h : xE Φ e l μ = .ok (.il vs) μ') (k : setAll l is vs = some l') (g : P (xSs Φ ss l' μ') = r) : P (xSs Φ (.cons (.assignT is e) ss) l μ) = r := by
 rw [ss_cons, s_assignT, h, of_ok]
 show P (seqK _ (optF _ (setAll l is vs))) = _
 rw [k]; exact g
theorem x_me0 {a : E} {x : V} {m : Me} {μ₁ : Mem} {r : O V} (h : xE Φ a l μ = .ok x μ₁) (hm : okMe m x = true) (k : methV μ₁ m x [] = r) : xE Φ (.me m a .nil) l μ = r := by
 rw [e_me, h, ob_ok, meK_r, if_pos hm]; exact k
theorem x_ca2 {a b : E} {x y : V} {f : Nat} {μ₁ : Mem} {r : O V} (h : xE Φ a l μ = .ok x μ₁) (h' : xE Φ b l μ₁ = .ok y μ') (k : Φ f [x, y] μ' = r) : xE Φ (.call f (.cons a (.cons b .nil))) l μ = r := by
 rw [e_call, es_cons, h, ob_ok, consK_r, es_cons, h']; exact k
theorem x_ca3 {a b c : E} {x y z : V} {f : Nat} {μ₁ μ₂ : Mem} {r : O V} (h : xE Φ a l μ = .ok x μ₁) (h' : xE Φ b l μ₁ = .ok y μ₂) (h3 : xE Φ c l μ₂ = .ok z μ') (k : Φ f [x, y, z] μ' = r) : xE Φ (.call f (.cons a (.cons b (.cons c .nil)))) l μ = r := by
 rw [e_call, es_cons, h, ob_ok, consK_r, es_cons, h', ob_ok, consK_r, es_cons, h3]; exact k
theorem x_eqi {a : E} {i j : Int} (h : xE Φ a l μ = .ok (.int i) μ') : xE Φ (.cmp .eq a (.int j)) l μ = .ok (.bool (decide (i = j))) μ' := by
 rw [e_cmp, h]; rfl
theorem x_orF {a : E} {es : Es} {r : O V} (h : xE Φ a l μ = .ok (.bool false) μ') (g : xE Φ (.or es) l μ' = r) : xE Φ (.or (.cons a es)) l μ = r := by
 rw [e_or, eo_cons, h]; exact g
theorem x_or1 {a : E} {c : Bool} (h : xE Φ a l μ = .ok (.bool c) μ') : xE Φ (.or (.cons a .nil)) l μ = .ok (.bool c) μ' := by
 rw [e_or, eo_cons, h]; cases c <;> rfl
theorem x_gt {a b : E} {i j : Int} {μ₁ : Mem} (h : xE Φ a l μ = .ok (.int i) μ₁) (h' : xE Φ b l μ₁ = .ok (.int j) μ') : xE Φ (.cmp .gt a b) l μ = .ok (.bool (decide (j < i))) μ' := by
 rw [e_cmp, h, ob_ok, cmpK_r, h']; rfl
theorem x_ge {a b : E} {i j : Int} {μ₁ : Mem} (h : xE Φ a l μ = .ok (.int i) μ₁) (h' : xE Φ b l μ₁ = .ok (.int j) μ') : xE Φ (.cmp .ge a b) l μ = .ok (.bool (decide (j ≤ i))) μ' := by
 rw [e_cmp, h, ob_ok, cmpK_r, h']; rfl
theorem s_itT {a b : Ss} {r : F} (h : xE Φ e l μ = .ok (.bool true) μ') (g : xSs Φ a l μ' = r) : xS Φ (.ite e a b) l μ = r := by
 rw [s_ite, h]; exact g
theorem s_itF {a b : Ss} {r : F} (h : xE Φ e l μ = .ok (.bool false) μ') (g : xSs Φ b l μ' = r) : xS Φ (.ite e a b) l μ = r := by
 rw [s_ite, h]; exact g
theorem x_lt {a b : E} {i j : Int} {μ₁ : Mem} (h : xE Φ a l μ = .ok (.int i) μ₁) (h' : xE Φ b l μ₁ = .ok (.int j) μ') : xE Φ (.cmp .lt a b) l μ = .ok (.bool (decide (i < j))) μ' := by
 rw [e_cmp, h, ob_ok, cmpK_r, h']; rfl
theorem x_eqv {a b : E} {i j : Int} {μ₁ : Mem} (h : xE Φ a l μ = .ok (.int i) μ₁) (h' : xE Φ b l μ₁ = .ok (.int j) μ') : xE Φ (.cmp .eq a b) l μ = .ok (.bool (decide (i = j))) μ' := by
 rw [e_cmp, h, ob_ok, cmpK_r, h']; rfl
theorem x_orT {a : E} {es : Es} (h : xE Φ a l μ = .ok (.bool true) μ') : xE Φ (.or (.cons a es)) l μ = .ok (.bool true) μ' := by
 rw [e_or, eo_cons, h]; rfl
theorem x_itT {a b c : E} {r : O V} (h : xE Φ c l μ = .ok (.bool true) μ') (g : xE Φ a l μ' = r) : xE Φ (.ite c a b) l μ = r := by
 rw [e_ite, h]; exact g
theorem x_itF {a b c : E} {r : O V} (h : xE Φ c l μ = .ok (.bool false) μ') (g : xE Φ b l μ' = r) : xE Φ (.ite c a b) l μ = r := by
 rw [e_ite, h]; exact g
theorem x_bi1 {a : E} {x : V} {b : Bi} (h : xE Φ a l μ = .ok x μ') (k : biV μ' b [x] = some v) : xE Φ (.bi b (.cons a .nil)) l μ = .ok v μ' := by
 rw [e_bi, es_cons, h]; exact lift_ok k
theorem x_ca1 {a : E} {x : V} {f : Nat} {r : O V} (h : xE Φ a l μ = .ok x μ') (k : Φ f [x] μ' = r) : xE Φ (.call f (.cons a .nil)) l μ = r := by
 rw [e_call, es_cons, h]; exact k
theorem x_bin {a b : E} {x y : V} {op : Bop} {μ₁ : Mem} (h : xE Φ a l μ = .ok x μ₁) (h' : xE Φ b l μ₁ = .ok y μ') (k : binV op x y = some v) : xE Φ (.bin op a b) l μ = .ok v μ' := by
 rw [e_bin, h, ob_ok, binK_r, h']; exact lift_ok k
theorem x_idx {a b : E} {x y : V} {μ₁ : Mem} (h : xE Φ a l μ = .ok x μ₁) (h' : xE Φ b l μ₁ = .ok y μ') (k : idxV μ' x y = some v) : xE Φ (.idx a b) l μ = .ok v μ' := by
 rw [e_idx, h, ob_ok, idxK_r, h']; exact lift_ok k
theorem x_eqT {a : E} {t w : List Nat} (g : xE Φ a l μ = .ok (.str t) μ) (h : t = w) : xE Φ (.cmp .eq a (.str w)) l μ = .ok (.bool true) μ := by
 rw [x_eq g, eqs_dec, decide_eq_true h]
theorem x_eqF {a : E} {t w : List Nat} (g : xE Φ a l μ = .ok (.str t) μ) (h : t ≠ w) : xE Φ (.cmp .eq a (.str w)) l μ = .ok (.bool false) μ := by
 rw [x_eq g, eqs_dec, decide_eq_false h]
theorem x_neT {a : E} {t w : List Nat} (g : xE Φ a l μ = .ok (.str t) μ) (h : t ≠ w) : xE Φ (.cmp .ne a (.str w)) l μ = .ok (.bool true) μ := by
 rw [x_ne g, eqs_dec, decide_eq_false h]; rfl
theorem x_neF {a : E} {t w : List Nat} (g : xE Φ a l μ = .ok (.str t) μ) (h : t = w) : xE Φ (.cmp .ne a (.str w)) l μ = .ok (.bool false) μ := by
 rw [x_ne g, eqs_dec, decide_eq_true h]; rfl
end
end lib
noncomputable def gr (c : Nat) : Nat := if 97 ≤ c ∧ c ≤ 122 then c - 32 else c
noncomputable def sm (c : Nat) : Nat := if 65 ≤ c ∧ c ≤ 90 then c + 32 else c
noncomputable def digit (c : Nat) : Bool := decide (48 ≤ c) && decide (c ≤ 57)
noncomputable def word (c : Nat) : Bool := (decide (97 ≤ c) && decide (c ≤ 122)) || (decide (65 ≤ c) && decide (c ≤ 90)) || digit c || decide (c = 95)
theorem succ_of {n D : Nat} (h : n + 1 ≤ D) : ∃ d, D = d + 1 ∧ n ≤ d := ⟨D - 1, by lia, by lia⟩
theorem c_great {c D : Nat} {μ : Mem} (hc : c ≤ 1114111) (hD : 1 ≤ D) : evCall fnTab D 5 [.str [c]] μ = .ok (.str [gr c]) μ := by
 obtain ⟨d, rfl, _⟩ := succ_of hD
 rw [evCall_succ rfl]
 refine run_fn rfl ?_
 simp [f_great_letter]
 unfold gr
 split
 · rename_i h
   have e : ((c : Int) - 32).toNat = c - 32 := by lia
   rw [bi_chr_i (by lia) (by lia), e]
   simp
 · rfl
theorem c_word {c D : Nat} {μ : Mem} (hD : 1 ≤ D) : evCall fnTab D 7 [.str [c]] μ = .ok (.bool (word c)) μ := by
 obtain ⟨d, rfl, _⟩ := succ_of hD
 rw [evCall_succ rfl]
 refine run_fn rfl ?_
 unfold word digit
 simp [f_is_plain_word_sign, Bool.or_assoc]
@[simp] theorem whK_t (μ : Mem) (k : Mem → F) (l : Loc) : whK k l (.ok (.bool true) μ) = k μ := (rfl)
@[simp] theorem whK_f (μ : Mem) (k : Mem → F) (l : Loc) : whK k l (.ok (.bool false) μ) = .next l μ := (rfl)
@[simp low] theorem whK_b (b : Bool) (μ : Mem) (k : Mem → F) (l : Loc) : whK k l (.ok (.bool b) μ) = if b = true then k μ else .next l μ := by cases b <;> rfl
@[simp] theorem whK_exc (μ : Mem) (k : Mem → F) (l : Loc) : whK k l (.exc μ) = .exc l μ := rfl
@[simp] theorem bodyK_next (l : Loc) (μ : Mem) (k : Loc → Mem → F) : bodyK k (.next l μ) = k l μ := rfl
@[simp] theorem bodyK_cont (l : Loc) (μ : Mem) (k : Loc → Mem → F) : bodyK k (.cont l μ) = k l μ := rfl
@[simp] theorem bodyK_brk (l : Loc) (μ : Mem) (k : Loc → Mem → F) : bodyK k (.brk l μ) = .next l μ := rfl
@[simp] theorem bodyK_ret (v : V) (μ : Mem) (k : Loc → Mem → F) : bodyK k (.ret v μ) = .ret v μ := rfl
@[simp] theorem bodyK_exc (l : Loc) (μ : Mem) (k : Loc → Mem → F) : bodyK k (.exc l μ) = .exc l μ := rfl
section
variable {Φ : OK} {l : Loc} {μ : Mem}
theorem whl_turn (c : E) (b : Ss) : xS Φ (.whl c b) l μ = whK (fun μ₁ => bodyK (xS Φ (.whl c b)) (xSs Φ b l μ₁)) l (xE Φ c l μ) := loopW_turn (xE Φ c) (xSs Φ b) l μ
noncomputable def forS (Φ : OK) (b : Ss) (i : Nat) (st : Mem → Prop) (vs : List V) (l : Loc) (μ : Mem) : F := forL i (xSs Φ b) st vs l μ
@[simp] theorem forS_nil (b : Ss) (i : Nat) (st : Mem → Prop) (l : Loc) (μ : Mem) : forS Φ b i st [] l μ = .next l μ := rfl
theorem forS_cons (b : Ss) (i : Nat) (st : Mem → Prop) (v : V) (vs : List V) (l : Loc) (μ : Mem) : forS Φ b i st (v :: vs) l μ = bodyK (fun l₂ μ₂ => onlyF (st μ₂) (forS Φ b i st vs l₂ μ₂)) (xSs Φ b (l.set i (some v)) μ) := rfl
@[simp] theorem find_1 (s : List Nat) (c : Nat) : findV s (.str [c]) [] = some (.int (findC c s 0)) := rfl
@[simp] theorem find_2 (s : List Nat) (c : Nat) (i : Int) : findV s (.str [c]) [.int i] = when (0 ≤ i) (.int (findC c (s.drop i.toNat) i.toNat)) := rfl
@[simp] theorem escIn_1 (c : Nat) : escIn [c] = (escTab.lookup c).isSome := rfl
@[simp] theorem only_T (x : F) : onlyF True x = x := if_pos trivial
@[simp] theorem onlyO_T {α : Type} (x : O α) : onlyO True x = x := if_pos trivial
theorem only_t {p : Prop} (h : p) (x : F) : onlyF p x = x := if_pos h
@[simp] theorem s_forE' (i : Nat) (it : E) (b : Ss) : xS Φ (.forE i it b) l μ = of2 l (forK i (xSs Φ b) l) (xE Φ it l μ) := rfl
@[simp] theorem s_forR' (i : Nat) (n : E) (b : Ss) : xS Φ (.forR i n b) l μ = of2 l (rngK i (xSs Φ b) l) (xE Φ n l μ) := rfl
@[simp] theorem forK_r (i : Nat) (b : Ss) (l : Loc) (v : V) (μ : Mem) : forK i (xSs Φ b) l v μ = optF (forK2 i (xSs Φ b) l v μ) (itemsOf μ v) := rfl
@[simp] theorem forK2_r (i : Nat) (b : Ss) (l : Loc) (v : V) (μ : Mem) (vs : List V) : forK2 i (xSs Φ b) l v μ vs = forS Φ b i (stays v vs) vs l μ := rfl
@[simp] theorem rngK_r (i : Nat) (b : Ss) (l : Loc) (v : V) (μ : Mem) : rngK i (xSs Φ b) l v μ = rangeK v (rngK2 i (xSs Φ b) l μ) := rfl
@[simp] theorem rngK2_r (i : Nat) (b : Ss) (l : Loc) (μ : Mem) (n : Int) : rngK2 i (xSs Φ b) l μ n = if 0 ≤ n ∧ n < 1000000 then forS Φ b i (fun _ => True) ((List.range n.toNat).map fun k => V.int (k : Nat)) l μ else .bad := rfl
end
@[simp] theorem icj (a b : Nat) : ((a : Int) = (b : Int)) = (a = b) := propext (by lia)
@[simp] theorem icl (a b : Nat) : ((a : Int) < (b : Int)) = (a < b) := propext (by lia)
@[simp] theorem ice (a b : Nat) : ((a : Int) ≤ (b : Int)) = (a ≤ b) := propext (by lia)
@[simp] theorem ic1 (n : Nat) : (n : Int) + 1 = ((n + 1 : Nat) : Int) := (rfl)
@[simp] theorem ic2 (n : Nat) : (n : Int) + 2 = ((n + 2 : Nat) : Int) := (rfl)
@[simp] theorem ic3 (n : Nat) : (n : Int) + 3 = ((n + 3 : Nat) : Int) := (rfl)
@[simp] theorem ic4 (n : Nat) : (n : Int) + 4 = ((n + 4 : Nat) : Int) := (rfl)
@[simp] theorem ic5 (n : Nat) : (n : Int) + 5 = ((n + 5 : Nat) : Int) := (rfl)
theorem bound_n {d n : Nat} (h : n < 1073741824) : boundV d (.int (n : Nat)) = some n := by
 show when (0 ≤ (n : Int)) (n : Int).toNat = _
 rw [when_r, if_pos (Int.natCast_nonneg n)]; rfl
theorem sl_str {s : List Nat} {lo hi : V} {a b : Nat} (h1 : boundV 0 lo = some a) (h2 : boundV s.length hi = some b) : sliceV (.str s) lo hi = some (.str ((s.take b).drop a)) := by
 show (boundV 0 lo).bind (fun l => (boundV s.length hi).map fun h => V.str ((s.take h).drop l)) = _
 rw [h1, h2]; rfl
theorem sl_nn {s : List Nat} {i j : Nat} (h1 : i < 1073741824) (h2 : j < 1073741824) : sliceV (.str s) (.int (i : Nat)) (.int (j : Nat)) = some (.str ((s.drop i).take (j - i))) := by
 rw [sl_str (bound_n h1) (bound_n h2), List.drop_take]
theorem sl_0n {s : List Nat} {j : Nat} (h2 : j < 1073741824) : sliceV (.str s) .none (.int (j : Nat)) = some (.str (s.take j)) := by
 rw [sl_str (a := 0) (by rfl) (bound_n h2)]; rfl
theorem sl_n0 {s : List Nat} {i : Nat} (h1 : i < 1073741824) : sliceV (.str s) (.int (i : Nat)) .none = some (.str (s.drop i)) := by
 rw [sl_str (b := s.length) (bound_n h1) (by rfl), List.take_length]
theorem sl_01 {s : List Nat} : sliceV (.str s) .none (.int 1) = some (.str (s.take 1)) := by
 have := sl_0n (s := s) (j := 1) (by decide)
 exact this
theorem sl_10 {s : List Nat} : sliceV (.str s) (.int 1) .none = some (.str (s.drop 1)) := by
 have := sl_n0 (s := s) (i := 1) (by decide)
 exact this
theorem ix_s {μ : Mem} {s : List Nat} {i : Nat} : idxV μ (.str s) (.int (i : Nat)) = (s[i]?).map fun c => .str [c] := by
 show (if (0 : Int) ≤ i then (s[(i : Int).toNat]?).map (fun c => V.str [c]) else none) = _
 rw [if_pos (Int.natCast_nonneg i)]; rfl
noncomputable def Okt (s : List Nat) : Prop := s.length ≤ 100000 ∧ ∀ c ∈ s, c < 128
theorem Okt.drop {s : List Nat} (h : Okt s) (n : Nat) : Okt (s.drop n) := ⟨by have := h.1; simp [-Int.natCast_add]; lia, fun c hc => h.2 c (List.mem_of_mem_drop hc)⟩
structure At (s : List Nat) (n : Nat) (r : List Nat) : Prop where
 drop : s.drop n = r
 le : n ≤ s.length
theorem At.len {s r : List Nat} {n : Nat} (h : At s n r) : s.length = n + r.length := by
 have := congrArg List.length h.drop
 have := h.le
 simp [-Int.natCast_add] at *; lia
theorem At.head {s r : List Nat} {n : Nat} (h : At s n r) : s[n]? = r[0]? := by
 have := congrArg (fun l => l[0]?) h.drop
 simpa using this
theorem At.dropk {s r : List Nat} {n : Nat} (h : At s n r) (k : Nat) : s.drop (n + k) = r.drop k := by
 rw [← List.drop_drop, h.drop]
theorem At.next {s r : List Nat} {n : Nat} (h : At s n r) (k : Nat) (hk : k ≤ r.length) : At s (n + k) (r.drop k) := ⟨h.dropk k, by have := h.len; lia⟩
theorem At.succ {s r : List Nat} {n c : Nat} (h : At s n (c :: r)) : At s (n + 1) r := h.next 1 (by simp [-Int.natCast_add])
theorem At.lt {s r : List Nat} {n c : Nat} (h : At s n (c :: r)) : n < s.length := by have := h.len; simp [-Int.natCast_add] at this; lia
theorem At.nil {s : List Nat} {n : Nat} (h : At s n []) : n = s.length := by have := h.len; simp [-Int.natCast_add] at this; lia
theorem At.slice {s r : List Nat} {n : Nat} (h : At s n r) (hs : s.length ≤ 100000) (a b : Nat) (ha : a ≤ 100) (hb : b ≤ 100) : sliceV (.str s) (.int ((n + a : Nat))) (.int ((n + b : Nat))) = some (.str ((r.drop a).take (b - a))) := by
 have := h.le
 rw [sl_nn (by lia) (by lia), h.dropk, Nat.add_sub_add_left]
theorem At.slice0 {s r : List Nat} {n : Nat} (h : At s n r) (hs : s.length ≤ 100000) (b : Nat) (hb : b ≤ 100) : sliceV (.str s) (.int (n : Nat)) (.int ((n + b : Nat))) = some (.str (r.take b)) := h.slice hs 0 b (by lia) hb
noncomputable def start : List Nat → Bool
 | c :: _ => word c && !digit c
 | [] => false
theorem c_start {l : List Nat} {D : Nat} {μ : Mem} (hD : 2 ≤ D) : evCall fnTab D 9 [.str (l.take 1)] μ = .ok (.bool (start l)) μ := by
 obtain ⟨d, rfl, _⟩ := succ_of hD
 rw [evCall_succ rfl]
 refine run_fn rfl ?_
 cases l with
 | nil => simp [-Int.natCast_add, f_is_name_start, start]
 | cons c r =>
   simp [-Int.natCast_add, f_is_name_start, start, c_word (show 1 ≤ d by lia), digit]
   by_cases h1 : 48 ≤ c <;> by_cases h2 : c ≤ 57 <;> simp [-Int.natCast_add, h1, h2] <;> lia
noncomputable def nameBody : List Nat → Nat
 | [] => 0
 | [c] => if word c then 1 else 0
 | c :: d :: r => if word c then nameBody (d :: r) + 1 else if c = 58 ∧ d = 58 ∧ start r = true then nameBody r + 2 else 0
noncomputable def nameLen (l : List Nat) : Nat :=
 let k := if l.take 2 = [58, 58] ∧ start (l.drop 2) = true then 2 else 0
 if start (l.drop k) = true then k + nameBody (l.drop k) else 0
theorem name_body {s : List Nat} (hs : Okt s) {d : Nat} (hd : 2 ≤ d) {a : V} {μ : Mem} {n c : Nat} {r : List Nat} (h : At s n (c :: r)) :
   xSs (evCall fnTab d) f_variable_name_end_b1 [some (.str s), some a, some (.int (n : Nat))] μ =
     if word c = true then .next [some (.str s), some a, some (.int ((n + 1 : Nat)))] μ
     else if (c :: r).take 2 = [58, 58] ∧ start (r.drop 1) = true then .next [some (.str s), some a, some (.int ((n + 2 : Nat)))] μ else .brk [some (.str s), some a, some (.int (n : Nat))] μ := by
 have f1 := h.slice0 hs.1 2 (by lia)
 have f2 := h.slice hs.1 2 3 (by lia) (by lia)
 simp [-Int.natCast_add, f_variable_name_end_b1, ix_s, h.head, c_word (show 1 ≤ d by lia), c_start hd, f1, f2]
theorem take_n {r t : List Nat} {k : Nat} (h : r.take k = t) : ∃ r2, r = t ++ r2 := ⟨r.drop k, by rw [← h, List.take_append_drop]⟩
theorem x_ltlen {Φ : OK} {l : Loc} {μ : Mem} {i j n : Nat} {s : List Nat} (h : xE Φ (.loc i) l μ = .ok (.int (n : Nat)) μ) (h' : xE Φ (.loc j) l μ = .ok (.str s) μ) : xE Φ (.cmp .lt (.loc i) (.bi .len (.cons (.loc j) .nil))) l μ = .ok (.bool (decide (n < s.length))) μ := by
 rw [x_lt h (x_bi1 h' (bi_len_s s))]
 exact congrArg (fun b => O.ok (V.bool b) μ) (decide_eq_decide.mpr Int.ofNat_lt)
theorem nb_wd {c : Nat} {r : List Nat} (h : word c = true) : nameBody (c :: r) = nameBody r + 1 := by
 cases r with
 | nil => exact if_pos h
 | cons d r => exact if_pos h
theorem nb_nt {c : Nat} {r : List Nat} (h : ¬ word c = true) (h2 : ¬ ((c :: r).take 2 = [58, 58] ∧ start (r.drop 1) = true)) : nameBody (c :: r) = 0 := by
 cases r with
 | nil => exact if_neg h
 | cons d r => exact (if_neg h).trans (if_neg fun q => h2 ⟨by rw [q.1, q.2.1]; rfl, q.2.2⟩)
theorem name_loop {s : List Nat} (hs : Okt s) {d : Nat} (hd : 2 ≤ d) {a : V} {μ : Mem} (k : Nat) : ∀ (r : List Nat) (n : Nat), r.length ≤ k → At s n r →
   xS (evCall fnTab d) (.whl (.cmp .lt (.loc 2) (.bi .len (.cons (.loc 0) .nil))) f_variable_name_end_b1) [some (.str s), some a, some (.int (n : Nat))] μ = .next [some (.str s), some a, some (.int ((n + nameBody r : Nat)))] μ := by
 induction k with
 | zero =>
   intro r n hk h
   obtain rfl : r = [] := List.eq_nil_of_length_eq_zero (Nat.le_zero.mp hk)
   rw [whl_turn, x_ltlen rfl rfl, decide_eq_false (Nat.not_lt_of_le (Nat.le_of_eq h.nil.symm)), whK_f]; rfl
 | succ k ih =>
   intro r n hk h
   cases r with
   | nil => rw [whl_turn, x_ltlen rfl rfl, decide_eq_false (Nat.not_lt_of_le (Nat.le_of_eq h.nil.symm)), whK_f]; rfl
   | cons c r =>
     have hk : r.length ≤ k := Nat.le_of_succ_le_succ hk
     rw [whl_turn, x_ltlen rfl rfl, decide_eq_true h.lt, whK_t, name_body hs hd h]
     by_cases hw : word c = true
     · rw [if_pos hw, bodyK_next, ih r (n + 1) hk h.succ, nb_wd hw, Nat.add_assoc, Nat.add_comm 1]
     rw [if_neg hw]
     by_cases hq : (c :: r).take 2 = [58, 58] ∧ start (r.drop 1) = true
     · obtain ⟨r2, e⟩ := take_n hq.1
       injection e with e1 e2
       subst e2
       rw [if_pos hq, bodyK_next, ih r2 (n + 2) (Nat.le_of_succ_le hk) h.succ.succ, Nat.add_assoc, Nat.add_comm 2]
       exact congrArg (fun m : Nat => F.next [some (.str s), some a, some (.int ((n + m : Nat)))] μ) ((if_neg hw).trans (if_pos ⟨e1, rfl, hq.2⟩)).symm
     · rw [if_neg hq, bodyK_brk, nb_nt hw hq]; rfl
theorem c_name {s r : List Nat} {n D : Nat} {μ : Mem} (hs : Okt s) (h : At s n r) (hD : 3 ≤ D) : evCall fnTab D 10 [.str s, .int (n : Nat)] μ = .ok (.int ((n + nameLen r : Nat))) μ := by
 obtain ⟨d, rfl, hd⟩ := succ_of hD
 rw [evCall_succ rfl]
 refine run_fn rfl ?_
 have f1 := h.slice0 hs.1 2 (by lia)
 have f2 := h.slice hs.1 2 3 (by lia) (by lia)
 have f3 := h.slice0 hs.1 1 (by lia)
 unfold nameLen
 by_cases hc : r.take 2 = [58, 58] ∧ start (r.drop 2) = true
 · have hl : 2 ≤ r.length := by
     have := congrArg List.length hc.1
     simp [-Int.natCast_add] at this; lia
   have h2 := h.next 2 hl
   have L := name_loop hs hd (a := .int (n : Nat)) (μ := μ) _ _ _ (Nat.le_refl _) h2
   have f4 := h2.slice0 hs.1 1 (by lia)
   simp [-Int.natCast_add, f_variable_name_end, c_start hd, f1, f2, hc.1, hc.2, f4, L]
   rw [Nat.add_assoc]
 · have h0 := h.next 0 (by lia)
   have L := name_loop hs hd (a := .int (n : Nat)) (μ := μ) _ _ _ (Nat.le_refl _) h
   by_cases hst : start r = true
   · simp [-Int.natCast_add, f_variable_name_end, c_start hd, f1, f2, f3, hc, L, hst, ← Bool.decide_and]
   · simp [-Int.natCast_add, f_variable_name_end, c_start hd, f1, f2, f3, hc, hst, ← Bool.decide_and]
noncomputable def quoteS (q : Nat) (l : List Nat) : Nat → Option Nat := l.rec (fun _ => none) fun c _ ih k => k.rec (if c = 92 then (ih 1).map (· + 1) else if c = q then some 1 else (ih 0).map (· + 1)) fun k _ => (ih k).map (· + 1)
noncomputable def quoteGo (q : Nat) (l : List Nat) : Option Nat := quoteS q l 0
theorem map_add (o : Option Nat) (i : Nat) : (o.map (· + i)).map (· + 1) = o.map (· + (i + 1)) := by cases o <;> rfl
theorem quoteGo_cons (q c : Nat) (r : List Nat) : quoteGo q (c :: r) = if c = 92 then (quoteGo q (r.drop 1)).map (· + 2) else if c = q then some 1 else (quoteGo q r).map (· + 1) := by
 have e1 : (quoteS q r 1).map (· + 1) = (quoteGo q (r.drop 1)).map (· + 2) := by
   cases r with
   | nil => rfl
   | cons a r => exact map_add (quoteGo q r) 1
 rw [← e1]; rfl
theorem quoteS_le (q : Nat) (l : List Nat) : ∀ (k : Nat) {m : Nat}, quoteS q l k = some m → 1 ≤ m ∧ m ≤ l.length := by
 induction l with
 | nil => intro k m h; cases h
 | cons c r ih =>
   have st : ∀ k {m : Nat}, (quoteS q r k).map (· + 1) = some m → 1 ≤ m ∧ m ≤ r.length + 1 := fun k m h => by
     obtain ⟨j, hj, rfl⟩ := Option.map_eq_some_iff.mp h
     exact ⟨Nat.le_add_left _ _, Nat.succ_le_succ (ih k hj).2⟩
   intro k m h
   cases k with
   | succ k => exact st k h
   | zero =>
     have h : (if c = 92 then (quoteS q r 1).map (· + 1) else if c = q then some 1 else (quoteS q r 0).map (· + 1)) = some m := h
     split at h
     · exact st _ h
     · split at h
       · cases h; exact ⟨Nat.le_refl _, Nat.le_add_left _ _⟩
       · exact st _ h
noncomputable def quoteLen : List Nat → Nat
 | [] => 1
 | q :: r => match quoteGo q r with
   | some k => 1 + k
   | none => 1
theorem quoteLen_le (c : Nat) (r : List Nat) : 1 ≤ quoteLen (c :: r) ∧ quoteLen (c :: r) ≤ r.length + 1 := by
 unfold quoteLen
 dsimp only
 split
 · rename_i k hk
   have := quoteS_le _ _ _ hk
   lia
 · lia
noncomputable abbrev quoteW : S := .whl (.cmp .lt (.loc 2) (.bi .len (.cons (.loc 0) .nil))) f_quote_skip_b1
noncomputable abbrev quoteL (s : List Nat) (a n : Nat) : Loc := [some (.str s), some (.int (a : Nat)), some (.int (n : Nat))]
theorem quote_body {s : List Nat} {d : Nat} {a q : Nat} (hq : s[a]? = some q) {n c : Nat} {r : List Nat} (h : At s n (c :: r)) (μ : Mem) :
   xSs (evCall fnTab d) f_quote_skip_b1 (quoteL s a n) μ = if c = 92 then .next (quoteL s a (n + 2)) μ else if c = q then .ret (.int ((n + 1 : Nat))) μ else .next (quoteL s a (n + 1)) μ := by
 simp [-Int.natCast_add, f_quote_skip_b1, ix_s, h.head, hq]
theorem quote_end {s : List Nat} {d a n : Nat} {μ : Mem} (h : s.length ≤ n) : xS (evCall fnTab d) quoteW (quoteL s a n) μ = .next (quoteL s a n) μ := by
 rw [whl_turn, x_ltlen rfl rfl, decide_eq_false (Nat.not_lt_of_le h), whK_f]
noncomputable def QuoP (s : List Nat) (a : Nat) (μ : Mem) (w : F) (n : Nat) (o : Option Nat) : Prop :=
 (∀ m, o = some m → w = .ret (.int ((n + m : Nat))) μ) ∧ (o = none → ∃ n', w = .next (quoteL s a n') μ)
theorem QuoP.step {s : List Nat} {a : Nat} {μ : Mem} {w : F} {n : Nat} {o : Option Nat} (j : Nat) (h : QuoP s a μ w (n + j) o) : QuoP s a μ w n (o.map (· + j)) := by
 cases o with
 | none => exact ⟨fun m hm => (by cases hm), fun _ => h.2 rfl⟩
 | some i => exact ⟨fun m hm => (by cases hm; rw [h.1 i rfl, Nat.add_assoc, Nat.add_comm j]), fun hm => by cases hm⟩
theorem quote_loop {s : List Nat} {d a q : Nat} (hq : s[a]? = some q) {μ : Mem} (k : Nat) : ∀ (r : List Nat) (n : Nat), r.length ≤ k → At s n r → QuoP s a μ (xS (evCall fnTab d) quoteW (quoteL s a n) μ) n (quoteGo q r) := by
 have hnil : ∀ n, s.length ≤ n → QuoP s a μ (xS (evCall fnTab d) quoteW (quoteL s a n) μ) n none := fun n h => ⟨fun m hm => (by cases hm), fun _ => ⟨_, quote_end h⟩⟩
 induction k with
 | zero =>
   intro r n hk h
   obtain rfl : r = [] := List.eq_nil_of_length_eq_zero (Nat.le_zero.mp hk)
   exact hnil n (Nat.le_of_eq h.nil.symm)
 | succ k ih =>
   intro r n hk h
   cases r with
   | nil => exact hnil n (Nat.le_of_eq h.nil.symm)
   | cons c r =>
     have hk : r.length ≤ k := Nat.le_of_succ_le_succ hk
     have hll : s.length = n + (r.length + 1) := h.len
     rw [whl_turn, x_ltlen rfl rfl, decide_eq_true h.lt, whK_t, quote_body hq h, quoteGo_cons]
     by_cases h1 : c = 92
     · rw [if_pos h1, if_pos h1, bodyK_next]
       refine QuoP.step 2 ?_
       cases r with
       | nil => exact hnil _ (by rw [hll]; exact Nat.le_succ _)
       | cons e r => exact ih r (n + 2) (Nat.le_of_succ_le hk) h.succ.succ
     rw [if_neg h1, if_neg h1]
     by_cases h2 : c = q
     · rw [if_pos h2, if_pos h2]
       exact ⟨fun m hm => (by cases hm; rfl), fun hm => by cases hm⟩
     · rw [if_neg h2, if_neg h2, bodyK_next]
       exact (ih r (n + 1) hk h.succ).step 1
theorem c_quote {s r : List Nat} {n c D : Nat} {μ : Mem} (h : At s n (c :: r)) (hD : 1 ≤ D) : evCall fnTab D 11 [.str s, .int (n : Nat)] μ = .ok (.int ((n + quoteLen (c :: r) : Nat))) μ := by
 obtain ⟨d, rfl, hd⟩ := succ_of hD
 rw [evCall_succ rfl]
 refine run_fn rfl ?_
 have L := quote_loop (d := d) (by rw [h.head]; rfl : s[n]? = some c) (μ := μ) _ _ _ (Nat.le_refl _) h.succ
 show _ = numK n μ (match quoteGo c r with | some k => 1 + k | none => 1)
 generalize quoteGo c r = o at L ⊢
 refine z_as (P := finK) rfl ?_
 cases o with
 | some k => exact z_s (L.1 k rfl) (by rw [numK, ← Nat.add_assoc]; rfl)
 | none =>
   obtain ⟨x, hx⟩ := L.2 rfl
   exact z_s hx rfl
noncomputable def closer (c : Nat) : Nat := (closeTab.lookup c).getD c
theorem c_closer {c D : Nat} {μ : Mem} (hD : 1 ≤ D) : evCall fnTab D 0 [.str [c]] μ = .ok (.str [closer c]) μ := by
 obtain ⟨d, rfl, _⟩ := succ_of hD
 rw [evCall_succ rfl]
 refine run_fn rfl ?_
 simp [f_closer_of, closerV, closer]
theorem takeWhile_drop {p : Nat → Bool} : ∀ l : List Nat, l.drop (l.takeWhile p).length = l.dropWhile p
 | [] => rfl
 | a :: l => by
   by_cases h : p a = true
   · simp [List.takeWhile_cons, List.dropWhile_cons, h, takeWhile_drop l]
   · simp [List.takeWhile_cons, List.dropWhile_cons, h]
theorem stripIn_eq (cs s : List Nat) : stripIn cs s = (((s.dropWhile cs.contains).reverse).dropWhile cs.contains).reverse := by
 have hc : (cs.toArray.contains : Nat → Bool) = cs.contains := by funext c; simp
 unfold stripIn Txt.stripChars
 rw [PySem.W.stripBy_eq]
 show (PySem.W.stripped cs.toArray.contains true true ⟨s.toArray⟩).cps.toList = _
 rw [hc]
 simp only [PySem.W.stripped, Builtin.Str.strSub, if_true]
 simp only [PySem.Str.length, List.size_toArray, List.extract_toArray]
 rw [takeWhile_drop]
 generalize hd : s.dropWhile cs.contains = t
 have hlen : s.length = (s.takeWhile cs.contains).length + t.length := by
   have := congrArg List.length (List.takeWhile_append_dropWhile (p := cs.contains) (l := s))
   rw [hd] at this
   simpa using this.symm
 have hdrop : s.drop (s.takeWhile cs.contains).length = t := by rw [takeWhile_drop, hd]
 rw [List.extract_eq_take_drop, hdrop]
 rw [← takeWhile_drop t.reverse]
 have hle : (t.reverse.takeWhile cs.contains).length ≤ t.length := by
   have := (List.takeWhile_prefix (p := cs.contains) (l := t.reverse)).length_le
   simpa using this
 rw [List.drop_reverse, List.reverse_reverse]
 congr 1
 lia
theorem drop_nil {p : Nat → Bool} (l : List Nat) : l.dropWhile p = [] ↔ ∀ x ∈ l, p x = true := by
 induction l with
 | nil => exact ⟨fun _ _ h => (by cases h), fun _ => rfl⟩
 | cons c l ih =>
   cases hp : p c with
   | false =>
     rw [List.dropWhile_cons_of_neg (by rw [hp]; decide)]
     exact ⟨fun h => (by cases h), fun h => (by rw [h c (.head _)] at hp; cases hp)⟩
   | true =>
     rw [List.dropWhile_cons_of_pos hp, ih]
     exact ⟨fun h x hx => (by cases hx with | head => exact hp | tail _ hx => exact h x hx), fun h x hx => h x (.tail _ hx)⟩
theorem strip_all (cs s : List Nat) : stripIn cs s = [] ↔ s.all cs.contains = true := by
 rw [stripIn_eq, List.reverse_eq_nil_iff]
 constructor
 · intro h
   have h1 : ∀ c ∈ (s.dropWhile cs.contains).reverse, cs.contains c = true := (drop_nil _).mp h
   have h2 : s.dropWhile cs.contains = [] := by
     cases hd : s.dropWhile cs.contains with
     | nil => rfl
     | cons c r =>
       have e := h1 c (by rw [hd]; exact List.mem_reverse.mpr (.head _))
       have := List.head_dropWhile_not cs.contains (l := s) (by rw [hd]; exact List.cons_ne_nil _ _)
       have e2 : (s.dropWhile cs.contains).head (by rw [hd]; exact List.cons_ne_nil _ _) = c := by simp only [hd]; rfl
       rw [e2, e] at this; cases this
   exact List.all_eq_true.mpr ((drop_nil _).mp h2)
 · intro h
   have e : s.dropWhile cs.contains = [] := (drop_nil _).mpr (List.all_eq_true.mp h)
   rw [e]; rfl
noncomputable def subS (op cl : Nat) (l : List Nat) : Nat → Nat → Option Nat := l.rec (fun _ _ => none) fun c r ih k dep => k.rec
   (if c = 92 then (ih 1 dep).map (· + 1)
   else if c = 39 ∨ c = 34 then (ih (quoteLen (c :: r) - 1) dep).map (· + 1)
   else if c = op then (ih 0 (dep + 1)).map (· + 1)
   else if c = cl then (if dep = 1 then some 1 else (ih 0 (dep - 1)).map (· + 1))
   else (ih 0 dep).map (· + 1)) fun k _ => (ih k dep).map (· + 1)
noncomputable def subG (op cl : Nat) (l : List Nat) (dep : Nat) : Option Nat := subS op cl l 0 dep
theorem subS_skip (op cl dep : Nat) (k : Nat) : ∀ l, subS op cl l k dep = (subG op cl (l.drop k) dep).map (· + k) := by
 induction k with
 | zero => intro l; show subG op cl l dep = (subG op cl l dep).map (· + 0); generalize subG op cl l dep = o; cases o <;> rfl
 | succ k ih =>
   intro l
   cases l with
   | nil => rfl
   | cons c r =>
     show (subS op cl r k dep).map (· + 1) = _
     rw [ih, map_add]; rfl
theorem subG_nil (op cl dep : Nat) : subG op cl [] dep = none := rfl
theorem subG_cons (op cl c : Nat) (r : List Nat) (dep : Nat) : subG op cl (c :: r) dep =
   if c = 92 then (subG op cl (r.drop 1) dep).map (· + 2)
   else if c = 39 ∨ c = 34 then (subG op cl ((c :: r).drop (quoteLen (c :: r))) dep).map (· + quoteLen (c :: r))
   else if c = op then (subG op cl r (dep + 1)).map (· + 1)
   else if c = cl then (if dep = 1 then some 1 else (subG op cl r (dep - 1)).map (· + 1))
   else (subG op cl r dep).map (· + 1) := by
 have e1 : (subS op cl r 1 dep).map (· + 1) = (subG op cl (r.drop 1) dep).map (· + 2) := by rw [subS_skip, map_add]
 have e2 : (subS op cl r (quoteLen (c :: r) - 1) dep).map (· + 1) = (subG op cl ((c :: r).drop (quoteLen (c :: r))) dep).map (· + quoteLen (c :: r)) := by
   have h := (quoteLen_le c r).1
   generalize quoteLen (c :: r) = q at h
   cases q with
   | zero => cases h
   | succ q => rw [Nat.add_sub_cancel, subS_skip, map_add]; rfl
 rw [← e1, ← e2]; rfl
theorem subS_le (op cl : Nat) (l : List Nat) : ∀ (k dep : Nat) {m : Nat}, subS op cl l k dep = some m → 1 ≤ m ∧ m ≤ l.length := by
 induction l with
 | nil => intro k dep m h; cases h
 | cons c r ih =>
   have st : ∀ k dep {m : Nat}, (subS op cl r k dep).map (· + 1) = some m → 1 ≤ m ∧ m ≤ r.length + 1 := fun k dep m h => by
     obtain ⟨j, hj, rfl⟩ := Option.map_eq_some_iff.mp h
     exact ⟨Nat.le_add_left _ _, Nat.succ_le_succ (ih k dep hj).2⟩
   intro k dep m h
   cases k with
   | succ k => exact st k dep h
   | zero =>
     have h : (if c = 92 then (subS op cl r 1 dep).map (· + 1) else if c = 39 ∨ c = 34 then (subS op cl r (quoteLen (c :: r) - 1) dep).map (· + 1) else if c = op then (subS op cl r 0 (dep + 1)).map (· + 1)
       else if c = cl then (if dep = 1 then some 1 else (subS op cl r 0 (dep - 1)).map (· + 1)) else (subS op cl r 0 dep).map (· + 1)) = some m := h
     split at h
     · exact st _ _ h
     · split at h
       · exact st _ _ h
       · split at h
         · exact st _ _ h
         · split at h
           · split at h
             · cases h; exact ⟨Nat.le_refl _, Nat.le_add_left _ _⟩
             · exact st _ _ h
           · exact st _ _ h
noncomputable def subV (s : List Nat) (a m : Nat) : V := if stripIn [32, 9, 10] ((s.drop (a + 1)).take (m - (a + 1))) = [] then .int (-1) else .int ((m + 1 : Nat))
noncomputable abbrev subW : S := .whl (.cmp .lt (.loc 5) (.bi .len (.cons (.loc 0) .nil))) f_subscript_end_b1
noncomputable abbrev subL (s : List Nat) (a op cl dep n : Nat) (x : Option V) : Loc := [some (.str s), some (.int (a : Nat)), some (.str [op]), some (.str [cl]), some (.int (dep : Nat)), some (.int (n : Nat)), x]
theorem sub_end {s : List Nat} {d a op cl dep : Nat} {μ : Mem} {n : Nat} {x : Option V} (h : s.length ≤ n) : xS (evCall fnTab d) subW (subL s a op cl dep n x) μ = .next (subL s a op cl dep n x) μ := by
 rw [whl_turn]
 simp
 intro h'; lia
theorem sub_body {s : List Nat} (hs : s.length ≤ 100000) {d a op cl dep : Nat} (hd : 1 ≤ d) {n c : Nat} {r : List Nat} {x : Option V} (h : At s n (c :: r)) (hdep : 1 ≤ dep ∨ c = op) (han : a ≤ s.length) (μ : Mem) :
   xSs (evCall fnTab d) f_subscript_end_b1 (subL s a op cl dep n x) μ =
     if c = 92 then .cont (subL s a op cl dep (n + 2) (some (.str [c]))) μ
     else if c = 39 ∨ c = 34 then .cont (subL s a op cl dep (n + quoteLen (c :: r)) (some (.str [c]))) μ
     else if c = op then .next (subL s a op cl (dep + 1) (n + 1) (some (.str [c]))) μ
     else if c = cl then (if dep = 1 then .ret (subV s a n) μ else .next (subL s a op cl (dep - 1) (n + 1) (some (.str [c]))) μ)
     else .next (subL s a op cl dep (n + 1) (some (.str [c]))) μ := by
 have hsl : sliceV (.str s) (.int ((a + 1 : Nat))) (.int (n : Nat)) = some (.str ((s.drop (a + 1)).take (n - (a + 1)))) := sl_nn (by lia) (by have := h.le; lia)
 have hq := c_quote (D := d) (μ := μ) h hd
 have hx : idxV μ (.str s) (.int (n : Nat)) = some (.str [c]) := by rw [ix_s, h.head]; rfl
 generalize evCall fnTab d = Φ at *
 refine z_as (P := fun x => x) (x_idx rfl rfl hx) ?_
 refine z_ite (P := fun x => x) (k := fun x => x) rfl (eq_dec c 92) (fun _ => rfl) fun _ => ?_
 refine z_ite (P := fun x => x) (k := fun x => x) (x_or2 rfl rfl) (show ([c] == [39] || [c] == [34]) = _ by rw [eq_dec, eq_dec, Bool.decide_or]) (fun _ => z_as hq rfl) fun _ => ?_
 have hz : ∀ d : Nat, xSs Φ (.cons (.aug 5 .add (.int 1)) .nil) (subL s a op cl d n (some (.str [c]))) μ = .next (subL s a op cl d (n + 1) (some (.str [c]))) μ := fun _ => rfl
 by_cases h3 : c = op
 · rw [if_pos h3]
   exact z_t (P := fun x => x) (by subst h3; exact congrArg (fun b => O.ok (V.bool b) μ) ((eq_dec c c).trans (decide_eq_true rfl))) (z_st rfl (z_nil (hz (dep + 1))))
 rw [if_neg h3]
 refine z_e (P := fun x => x) (congrArg (fun b => O.ok (V.bool b) μ) ((eq_dec c op).trans (decide_eq_false h3))) ?_
 by_cases h4 : c = cl
 · rw [if_pos h4]
   refine z_t (congrArg (fun b => O.ok (V.bool b) μ) ((eq_dec c cl).trans (decide_eq_true h4))) ?_
   obtain ⟨k, rfl⟩ : ∃ k, dep = k + 1 := ⟨dep - 1, by have := hdep.resolve_right h3; lia⟩
   refine z_st (s_aug' rfl rfl (congrArg (fun i => some (V.int i)) (Int.add_sub_cancel (k : Int) 1))) ?_
   by_cases h5 : k + 1 = 1
   · rw [if_pos h5]
     obtain rfl : k = 0 := Nat.succ.inj h5
     refine z_t rfl (z_ret (v := subV s a n) (μ' := μ) ?_ rfl)
     rw [subV, ← ite_not]
     exact x_ite (k := fun v => O.ok v μ) (x_ne (x_me1 (lift_ok hsl) rfl rfl rfl fun _ => rfl)) (by rw [eqs_dec, ← decide_not]) (fun _ => rfl) fun _ => rfl
   · rw [if_neg h5]
     refine z_f (congrArg (fun b => O.ok (V.bool b) μ) (decide_eq_false (p := ((k : Nat) : Int) = 0) (by lia))) (z_nil (Φ := Φ) (z_nil (Φ := Φ) (hz k)))
 · rw [if_neg h4]
   exact z_f (congrArg (fun b => O.ok (V.bool b) μ) ((eq_dec c cl).trans (decide_eq_false h4))) (z_nil (hz dep))
noncomputable def SubP (s : List Nat) (a op cl : Nat) (μ : Mem) (w : F) (n len : Nat) (o : Option Nat) : Prop :=
 (∀ m, o = some m → 1 ≤ m ∧ m ≤ len ∧ w = .ret (subV s a (n + m - 1)) μ) ∧ (o = none → ∃ dep' n' x', w = .next (subL s a op cl dep' n' x') μ)
theorem SubP.step {s : List Nat} {a op cl : Nat} {μ : Mem} {w : F} {n len len' : Nat} {o : Option Nat} (j : Nat) (h : SubP s a op cl μ w (n + j) len' o) (hl : len' + j ≤ len ∨ o = none) : SubP s a op cl μ w n len (o.map (· + j)) := by
 cases o with
 | none => exact ⟨fun m hm => (by cases hm), fun _ => h.2 rfl⟩
 | some i =>
   obtain ⟨j1, j2, j3⟩ := h.1 i rfl
   have hl := hl.resolve_right (fun z => by cases z)
   refine ⟨fun m hm => ?_, fun hm => by cases hm⟩
   cases hm
   exact ⟨Nat.le_trans j1 (Nat.le_add_right _ _), by lia, by rw [j3, Nat.add_assoc, Nat.add_comm j]⟩
theorem sub_loop {s : List Nat} (hs : s.length ≤ 100000) {d a op cl : Nat} (hd : 1 ≤ d) (han : a ≤ s.length) {μ : Mem} (k : Nat) : ∀ (r : List Nat) (n dep : Nat) (x : Option V), r.length ≤ k → At s n r → 1 ≤ dep →
   SubP s a op cl μ (xS (evCall fnTab d) subW (subL s a op cl dep n x) μ) n r.length (subG op cl r dep) := by
 have hnil : ∀ (n dep : Nat) (x : Option V), s.length ≤ n → SubP s a op cl μ (xS (evCall fnTab d) subW (subL s a op cl dep n x) μ) n 0 (subG op cl [] dep) := fun n dep x h => by
   rw [subG_nil]; exact ⟨fun m hm => (by cases hm), fun _ => ⟨_, _, _, sub_end h⟩⟩
 induction k with
 | zero =>
   intro r n dep x hk h hdep
   obtain rfl : r = [] := List.eq_nil_of_length_eq_zero (Nat.le_zero.mp hk)
   exact hnil n dep x (Nat.le_of_eq h.nil.symm)
 | succ k ih =>
   intro r n dep x hk h hdep
   cases r with
   | nil => exact hnil n dep x (Nat.le_of_eq h.nil.symm)
   | cons c r =>
     have hk : r.length ≤ k := Nat.le_of_succ_le_succ hk
     have hqle := quoteLen_le c r
     have hll := h.len
     have hc : xE (evCall fnTab d) (.cmp .lt (.loc 5) (.bi .len (.cons (.loc 0) .nil))) (subL s a op cl dep n x) μ = .ok (.bool true) μ := congrArg (fun b => O.ok (V.bool b) μ) (decide_eq_true (Int.ofNat_lt.mpr h.lt))
     rw [whl_turn, hc, whK_t, sub_body (x := x) hs hd h (.inl hdep) han μ, subG_cons]
     show SubP s a op cl μ _ n (r.length + 1) _
     have hll : s.length = n + (r.length + 1) := hll
     by_cases h1 : c = 92
     · rw [if_pos h1, if_pos h1, bodyK_cont]
       cases r with
       | nil => exact (hnil (n + 2) dep _ (by rw [hll]; exact Nat.le_succ _)).step 2 (.inr (subG_nil _ _ _))
       | cons e r => exact (ih r (n + 2) dep _ (Nat.le_of_succ_le hk) h.succ.succ hdep).step 2 (.inl (Nat.le_refl _))
     rw [if_neg h1, if_neg h1]
     by_cases h2 : c = 39 ∨ c = 34
     · rw [if_pos h2, if_pos h2, bodyK_cont]
       have e : ((c :: r).drop (quoteLen (c :: r))).length = r.length + 1 - quoteLen (c :: r) := List.length_drop
       exact (ih _ _ dep _ (by rw [e]; lia) (h.next (quoteLen (c :: r)) hqle.2) hdep).step _ (.inl (by rw [e, Nat.sub_add_cancel hqle.2]; exact Nat.le_refl _))
     rw [if_neg h2, if_neg h2]
     have i1 := fun dep (hdep : 1 ≤ dep) => (ih r (n + 1) dep (some (.str [c])) hk h.succ hdep).step 1 (.inl (Nat.le_refl _))
     by_cases h3 : c = op
     · rw [if_pos h3, if_pos h3, bodyK_next]
       exact i1 (dep + 1) (Nat.le_add_left _ _)
     rw [if_neg h3, if_neg h3]
     by_cases h4 : c = cl
     · rw [if_pos h4, if_pos h4]
       by_cases h5 : dep = 1
       · rw [if_pos h5, if_pos h5]
         exact ⟨fun m hm => (by cases hm; exact ⟨Nat.le_refl _, Nat.le_add_left _ _, rfl⟩), fun hm => (by cases hm)⟩
       · rw [if_neg h5, if_neg h5, bodyK_next]
         exact i1 (dep - 1) (by lia)
     rw [if_neg h4, if_neg h4, bodyK_next]
     exact i1 dep hdep
noncomputable def subEnd (l : List Nat) : Option Nat := match l with
 | [] => none
 | op :: r => match subG op (closer op) r 1 with
   | some m => if (r.take (m - 1)).all [32, 9, 10].contains = true then none else some (m + 1)
   | none => none
theorem c_sub {s r : List Nat} {n op D : Nat} {μ : Mem} (hs : s.length ≤ 100000) (h : At s n (op :: r)) (hop : op = 91 ∨ op = 123) (hD : 2 ≤ D) :
   evCall fnTab D 12 [.str s, .int (n : Nat)] μ = .ok (match subEnd (op :: r) with | some m => .int ((n + m : Nat)) | none => .int (-1)) μ := by
 obtain ⟨d, rfl, hd⟩ := succ_of hD
 rw [evCall_succ rfl]
 refine run_fn rfl ?_
 have hb := sub_body (a := n) (dep := 0) (op := op) (cl := closer op) (x := none) hs hd h (.inr rfl) h.le μ
 have h1 : ¬ op = 92 := by rcases hop with rfl | rfl <;> decide
 have h2 : ¬ (op = 39 ∨ op = 34) := by rcases hop with rfl | rfl <;> decide
 have hc : xE (evCall fnTab d) (.cmp .lt (.loc 5) (.bi .len (.cons (.loc 0) .nil))) (subL s n op (closer op) 0 n none) μ = .ok (.bool true) μ := congrArg (fun b => O.ok (V.bool b) μ) (decide_eq_true (Int.ofNat_lt.mpr h.lt))
 have L := sub_loop (op := op) (cl := closer op) (a := n) (μ := μ) hs hd h.le _ r (n + 1) 1 (some (.str [op])) (Nat.le_refl _) h.succ (Nat.le_refl _)
 have first : xS (evCall fnTab d) subW (subL s n op (closer op) 0 n none) μ = xS (evCall fnTab d) subW (subL s n op (closer op) 1 (n + 1) (some (.str [op]))) μ := by
   rw [whl_turn, hc, whK_t, hb, if_neg h1, if_neg h2, if_pos rfl, bodyK_next]
 have hx : idxV μ (.str s) (.int (n : Nat)) = some (.str [op]) := by rw [ix_s, h.head]; rfl
 have hcl := c_closer (c := op) (μ := μ) hd
 rw [← first] at L
 generalize evCall fnTab d = Φ at *
 refine z_as (P := finK) (x_idx rfl rfl hx) (z_as (x_ca1 rfl hcl) (z_as rfl (z_as rfl ?_)))
 unfold subEnd
 dsimp only
 cases hg : subG op (closer op) r 1 with
 | some m =>
   obtain ⟨m1, m2, m3⟩ := L.1 m hg
   rw [Nat.add_right_comm, Nat.add_sub_cancel] at m3
   refine z_s m3 ?_
   have e : (s.drop (n + 1)).take (n + m - (n + 1)) = r.take (m - 1) := by rw [Nat.add_sub_add_left, h.dropk]; rfl
   show O.ok (subV s n (n + m)) μ = _
   rw [subV, e]
   dsimp only
   by_cases q : stripIn [32, 9, 10] (r.take (m - 1)) = []
   · rw [if_pos q, if_pos ((strip_all _ _).mp q)]
   · rw [if_neg q, if_neg fun z => q ((strip_all _ _).mpr z)]; rfl
 | none =>
   obtain ⟨dep', n', x', hx⟩ := L.2 hg
   exact z_s hx rfl
noncomputable def dg (s : List Nat) : Bool := !s.isEmpty && s.all digit
theorem digits_loop {d : Nat} {μ : Mem} {t : V} : ∀ (r : List Nat) (x : Option V), ∃ y,
   forS (evCall fnTab d) f_digits_only_b1 1 (fun _ => True) (r.map fun c => V.str [c]) [some t, x] μ = if r.all digit = true then .next [some t, y] μ else .ret (.bool false) μ
 | [], x => ⟨x, by simp⟩
 | c :: r, x => by
   have hb : xSs (evCall fnTab d) f_digits_only_b1 [some t, some (.str [c])] μ = if digit c = true then .next [some t, some (.str [c])] μ else .ret (.bool false) μ := by
     unfold digit
     by_cases h1 : 48 ≤ c <;> by_cases h2 : c ≤ 57 <;> simp [f_digits_only_b1, h1, h2]
   obtain ⟨y, hy⟩ := digits_loop (d := d) (μ := μ) (t := t) r (some (.str [c]))
   refine ⟨y, ?_⟩
   rw [List.map_cons, forS_cons]
   show bodyK _ (xSs _ _ [some t, some (.str [c])] μ) = _
   rw [hb]
   by_cases h : digit c = true
   · simp [h, hy]
   · simp [h]
theorem c_digits {s : List Nat} {D : Nat} {μ : Mem} (hD : 1 ≤ D) : evCall fnTab D 13 [.str s] μ = .ok (.bool (dg s)) μ := by
 obtain ⟨d, rfl, _⟩ := succ_of hD
 rw [evCall_succ rfl]
 refine run_fn rfl ?_
 cases s with
 | nil => simp [f_digits_only, dg]
 | cons c r =>
   obtain ⟨y, hy⟩ := digits_loop (d := d) (μ := μ) (t := .str (c :: r)) (c :: r) none
   have e : stays (.str (c :: r)) ((c :: r).map fun c => V.str [c]) = fun _ => True := by funext μ; simp [stays]
   simp only [List.map_cons] at hy e
   by_cases h : (c :: r).all digit = true
   · rw [if_pos h] at hy
     simp only [List.all_cons, Bool.and_eq_true] at h
     simp [f_digits_only, itemsOf, e, hy, dg, h.1, h.2]
   · rw [if_neg h] at hy
     have hf : (c :: r).all digit = false := by simpa using h
     simp [f_digits_only, itemsOf, e, hy, dg]
     simpa using hf
noncomputable def patPart (inner : List Nat) (op : Nat) : Bool :=
 if op = 123 then (match partAt 44 inner with
   | some (a, b) => dg a && (b.isEmpty || dg b)
   | none => dg inner)
 else
   let i2 := if inner.take 1 = [45] then inner.drop 1 else inner
   if i2.take 1 = [36] then false else !dg i2 || decide (2 < i2.length)
noncomputable abbrev ppT : Ss := .cons (.ite (.cmp .eq (.slice (.loc 0) .none (.int 1)) (.str [36])) (.cons (.ret (.bool false)) .nil) .nil) (.cons
 (.ret (.or (.cons (.not (.call 13 (.cons (.loc 0) .nil))) (.cons (.cmp .gt (.bi .len (.cons (.loc 0) .nil)) (.int 2)) .nil)))) .nil)
noncomputable def bolK (μ : Mem) (b : Bool) : O V := .ok (.bool b) μ
theorem pp_tail {Φ : OK} {t : List Nat} {l : Loc} {μ : Mem} (hg : ∀ t, Φ 13 [.str t] μ = .ok (.bool (dg t)) μ) : finK (xSs Φ ppT (some (.str t) :: l) μ) = bolK μ (if t.take 1 = [36] then false else !dg t || decide (2 < t.length)) :=
 z_ite (P := finK) (k := bolK μ) (x_eq (lift_ok sl_01)) (eqs_dec _ _) (fun _ => z_ret rfl rfl) fun _ => z_ret (x_or2 (x_not (x_ca1 rfl (hg t))) (x_gt (x_bi1 rfl (bi_len_s t)) rfl)) (by rw [show decide ((2 : Int) < ((t.length : Nat) : Int)) = decide (2 < t.length) from decide_eq_decide.mpr (by lia)]; rfl)
theorem pp_123 {Φ : OK} {s a b c : List Nat} {μ : Mem} (hg : ∀ t, Φ 13 [.str t] μ = .ok (.bool (dg t)) μ) (hp : parted 44 s = .tup [.str a, .str c, .str b]) : finK (xSs Φ f_is_pattern_part.body [some (.str s), some (.str [123]), none, none, none] μ) = bolK μ (dg a && (b == [] || dg b)) :=
 z_t (P := finK) rfl (z_asT (x_me1 rfl rfl rfl (congrArg some hp) fun _ => rfl) rfl (z_ret (x_and2 (x_ca1 rfl (hg a)) (x_or2 (x_eq rfl) (x_ca1 rfl (hg b)))) rfl))
theorem c_patPart {s : List Nat} {op D : Nat} {μ : Mem} (hD : 2 ≤ D) : evCall fnTab D 14 [.str s, .str [op]] μ = .ok (.bool (patPart s op)) μ := by
 obtain ⟨d, rfl, hd⟩ := succ_of hD
 rw [evCall_succ rfl]
 refine run_fn rfl ?_
 have hg := fun (t : List Nat) => c_digits (s := t) (μ := μ) hd
 generalize evCall fnTab d = Φ at hg
 show finK (xSs Φ f_is_pattern_part.body [some (.str s), some (.str [op]), none, none, none] μ) = bolK μ (patPart s op)
 unfold patPart
 by_cases h : op = 123
 · rw [if_pos h, h]
   cases hp : partAt 44 s with
   | none => rw [pp_123 (a := s) (b := []) (c := []) hg (by unfold parted; rw [hp])]; exact congrArg (bolK μ) (Bool.and_true _)
   | some q =>
     rw [pp_123 (a := q.1) (b := q.2) (c := [44]) hg (by unfold parted; rw [hp])]
     obtain ⟨a, b⟩ := q
     cases b <;> rfl
 rw [if_neg h]
 refine z_f (P := finK) (congrArg (fun b => O.ok (V.bool b) μ) ((eq_dec op 123).trans (decide_eq_false h))) ?_
 dsimp only
 by_cases h1 : s.take 1 = [45]
 · rw [if_pos h1]
   exact z_t (x_eqT (lift_ok sl_01) h1) (z_as (lift_ok sl_10) (z_nq (pp_tail hg)))
 · rw [if_neg h1]
   exact z_f (x_eqF (lift_ok sl_01) h1) (pp_tail hg)
theorem subEnd_le {op m : Nat} {r : List Nat} (h : subEnd (op :: r) = some m) : 2 ≤ m ∧ m ≤ r.length + 1 := by
 unfold subEnd at h
 dsimp only at h
 split at h
 · rename_i k hk
   split at h
   · cases h
   · cases h
     suffices 1 ≤ k ∧ k ≤ r.length by lia
     exact subS_le _ _ _ _ _ hk
 · cases h
noncomputable def oneLen (pat : Bool) (l : List Nat) : Nat := match l with
 | [] => 0
 | c :: r => if c = 91 ∨ c = 123 then (match subEnd (c :: r) with
   | some m => if (pat && patPart (r.take (m - 2)) c) = true then 0 else m
   | none => 0) else 0
theorem oneLen_le (pat : Bool) (l : List Nat) : oneLen pat l ≤ l.length := by
 unfold oneLen
 split
 · simp
 · split
   · split
     · rename_i m hm
       have := subEnd_le hm
       split <;> simp <;> lia
     · simp
   · simp
theorem one_none {Φ : OK} {s : List Nat} {n : Nat} {pat : V} {t : List Nat} {μ : Mem} (f1 : sliceV (.str s) (.int (n : Nat)) (.int ((n + 1 : Nat))) = some (.str t)) (h1 : t ≠ [91]) (h2 : t ≠ [123]) : finK (xSs Φ f_one_subscript.body [some (.str s), some (.int (n : Nat)), some pat, none] μ) = numK n μ 0 :=
 z_t (P := finK) (x_and2 (p := true) (q := true) (x_neT (lift_ok f1) h1) (x_neT (lift_ok f1) h2)) (z_ret rfl rfl)
theorem one_some {Φ : OK} {s : List Nat} {n m c : Nat} {pat b : Bool} {t : List Nat} {μ : Mem} (hc : c = 91 ∨ c = 123) (f1 : sliceV (.str s) (.int (n : Nat)) (.int ((n + 1 : Nat))) = some (.str [c])) (f2 : sliceV (.str s) (.int ((n + 1 : Nat))) (.int (((n + m : Nat) : Int) - 1)) = some (.str t)) (hx : idxV μ (.str s) (.int (n : Nat)) = some (.str [c]))
   (hs : Φ 12 [.str s, .int (n : Nat)] μ = .ok (.int ((n + m : Nat))) μ) (hp : Φ 14 [.str t, .str [c]] μ = .ok (.bool b) μ) : finK (xSs Φ f_one_subscript.body [some (.str s), some (.int (n : Nat)), some (.bool pat), none] μ) = numK n μ (if (pat && b) = true then 0 else m) := by
 have g : xE Φ (.and (.cons (.cmp .ne (.slice (.loc 0) (.loc 1) (.bin .add (.loc 1) (.int 1))) (.str [91])) (.cons (.cmp .ne (.slice (.loc 0) (.loc 1) (.bin .add (.loc 1) (.int 1))) (.str [123])) .nil))) [some (.str s), some (.int (n : Nat)), some (.bool pat), none] μ = .ok (.bool false) μ := by
   rcases hc with rfl | rfl
   · exact x_andF (x_neF (lift_ok f1) rfl)
   · exact x_andT (x_neT (lift_ok f1) (by decide)) (x_and1 (x_neF (lift_ok f1) rfl))
 refine z_f (P := finK) g (z_as hs (z_ite (k := numK n μ) (x_orF (μ' := μ) ?_ (x_or1 (c := pat && b) ?_)) Bool.decide_eq_true.symm (fun _ => z_ret rfl rfl) fun _ => z_ret rfl rfl))
 · exact congrArg (fun b => O.ok (V.bool b) μ) (decide_eq_false (p := ((n + m : Nat) : Int) < 0) (by lia))
 · exact x_and2 rfl (x_ca2 (lift_ok f2) (x_idx rfl rfl hx) hp)
theorem one_bad {Φ : OK} {s : List Nat} {n c : Nat} {pat : V} {μ : Mem} (hc : c = 91 ∨ c = 123) (f1 : sliceV (.str s) (.int (n : Nat)) (.int ((n + 1 : Nat))) = some (.str [c])) (hs : Φ 12 [.str s, .int (n : Nat)] μ = .ok (.int (-1)) μ) : finK (xSs Φ f_one_subscript.body [some (.str s), some (.int (n : Nat)), some pat, none] μ) = numK n μ 0 := by
 have g : xE Φ (.and (.cons (.cmp .ne (.slice (.loc 0) (.loc 1) (.bin .add (.loc 1) (.int 1))) (.str [91])) (.cons (.cmp .ne (.slice (.loc 0) (.loc 1) (.bin .add (.loc 1) (.int 1))) (.str [123])) .nil))) [some (.str s), some (.int (n : Nat)), some pat, none] μ = .ok (.bool false) μ := by
   rcases hc with rfl | rfl
   · exact x_andF (x_neF (lift_ok f1) rfl)
   · exact x_andT (x_neT (lift_ok f1) (by decide)) (x_and1 (x_neF (lift_ok f1) rfl))
 exact z_f (P := finK) g (z_as hs (z_t (x_orT rfl) (z_ret rfl rfl)))
theorem c_one {s r : List Nat} {n D : Nat} {pat : Bool} {μ : Mem} (hs : s.length ≤ 100000) (h : At s n r) (hD : 3 ≤ D) : evCall fnTab D 15 [.str s, .int (n : Nat), .bool pat] μ = .ok (.int ((n + oneLen pat r : Nat))) μ := by
 obtain ⟨d, rfl, hd⟩ := succ_of hD
 rw [evCall_succ rfl]
 refine run_fn rfl ?_
 have f1 := h.slice0 hs 1 (by decide)
 cases r with
 | nil => exact one_none f1 (fun z => by cases z) (fun z => by cases z)
 | cons c r =>
   show _ = numK n μ (if c = 91 ∨ c = 123 then (match subEnd (c :: r) with | some m => if (pat && patPart (r.take (m - 2)) c) = true then 0 else m | none => 0) else 0)
   by_cases hc : c = 91 ∨ c = 123
   · rw [if_pos hc]
     have hsub := c_sub (μ := μ) hs h hc hd
     cases hm : subEnd (c :: r) with
     | none =>
       rw [hm] at hsub
       exact one_bad hc f1 hsub
     | some m =>
       rw [hm] at hsub
       have hml := subEnd_le hm
       have hlen := h.len
       rw [List.length_cons] at hlen
       have f2 : sliceV (.str s) (.int ((n + 1 : Nat))) (.int (((n + m : Nat) : Int) - 1)) = some (.str (r.take (m - 2))) := by
         rw [show ((n + m : Nat) : Int) - 1 = ((n + m - 1 : Nat) : Int) by lia, sl_nn (by lia) (by lia), h.dropk, show n + m - 1 - (n + 1) = m - 2 by lia]; rfl
       exact one_some hc f1 f2 (by rw [ix_s, h.head]; rfl) hsub (c_patPart hd)
   · rw [if_neg hc]
     exact one_none f1 (fun z => hc (.inl (by cases z; rfl))) (fun z => hc (.inr (by cases z; rfl)))
noncomputable def arrow (l : List Nat) : Nat := if l.take 2 = [45, 62] then 2 else 0
theorem arrow_le (l : List Nat) : arrow l ≤ l.length := by
 unfold arrow
 split
 · rename_i h
   have := congrArg List.length h
   simp at this; lia
 · simp
noncomputable def allLen (pat : Bool) (l : List Nat) : Nat :=
 let k := arrow l
 let m := oneLen (pat && decide (k = 0)) (l.drop k)
 if h : m = 0 then 0 else k + m + allLen pat (l.drop (k + m))
termination_by l.length
decreasing_by
 simp_wf
 have h1 := oneLen_le (pat && decide (arrow l = 0)) (l.drop (arrow l))
 simp at h1
 have h2 : oneLen (pat && decide (arrow l = 0)) (l.drop (arrow l)) ≠ 0 := h
 have := arrow_le l
 lia
theorem allLen_eq (pat : Bool) (l : List Nat) : allLen pat l = if oneLen (pat && decide (arrow l = 0)) (l.drop (arrow l)) = 0 then 0 else arrow l + oneLen (pat && decide (arrow l = 0)) (l.drop (arrow l)) + allLen pat (l.drop (arrow l + oneLen (pat && decide (arrow l = 0)) (l.drop (arrow l)))) := by
 rw [allLen]
 split <;> simp_all
theorem step_le (pat : Bool) (l : List Nat) : arrow l + oneLen (pat && decide (arrow l = 0)) (l.drop (arrow l)) ≤ l.length := by
 have h1 := oneLen_le (pat && decide (arrow l = 0)) (l.drop (arrow l))
 simp at h1
 have := arrow_le l
 lia
theorem allLen_le (pat : Bool) : ∀ (k : Nat) (l : List Nat), l.length ≤ k → allLen pat l ≤ l.length
 | 0, l, h => by
   rw [allLen_eq]
   have := step_le pat l
   split
   · simp
   · rename_i hm; lia
 | k + 1, l, h => by
   rw [allLen_eq]
   have hst := step_le pat l
   split
   · simp
   · rename_i hm
     have := allLen_le pat k (l.drop (arrow l + oneLen (pat && decide (arrow l = 0)) (l.drop (arrow l)))) (by simp; lia)
     simp at this
     lia
noncomputable abbrev allL (s : List Nat) (at0 : V) (pat : Bool) (n : Nat) (x y : Option V) : Loc := [some (.str s), some at0, some (.bool pat), some (.int (n : Nat)), x, y]
noncomputable abbrev aOne (pat : Bool) (r : List Nat) : Nat := oneLen (pat && decide (arrow r = 0)) (r.drop (arrow r))
theorem all_tail {Φ : OK} {s : List Nat} {at0 : V} {pat : Bool} {n k m : Nat} {y : Option V} {μ : Mem} (c1 : Φ 15 [.str s, .int ((n + k : Nat)), .bool (pat && decide (k = 0))] μ = .ok (.int ((n + k + m : Nat))) μ) :
   xSs Φ (.cons (.assign 5 (.call 15 (.cons (.loc 0) (.cons (.loc 4) (.cons (.and (.cons (.loc 2) (.cons (.cmp .eq (.loc 4) (.loc 3)) .nil))) .nil))))) (.cons (.ite (.cmp .eq (.loc 5) (.loc 4)) (.cons (.ret (.loc 3)) .nil) .nil) (.cons (.assign 3 (.loc 5)) .nil))) (allL s at0 pat n (some (.int ((n + k : Nat)))) y) μ =
     if m = 0 then .ret (.int (n : Nat)) μ else .next (allL s at0 pat (n + k + m) (some (.int ((n + k : Nat)))) (some (.int ((n + k + m : Nat))))) μ := by
 have e : decide (((n + k : Nat) : Int) = ((n : Nat) : Int)) = decide (k = 0) := decide_eq_decide.mpr (by lia)
 exact z_as (P := fun x => x) (x_ca3 rfl rfl ((x_and2 rfl (x_eqv rfl rfl)).trans (congrArg (fun b => O.ok (V.bool (pat && b)) μ) e)) c1) (z_ite (P := fun x => x) (k := fun x => x) (x_eqv rfl rfl) (decide_eq_decide.mpr (show ((n + k + m : Nat) : Int) = ((n + k : Nat) : Int) ↔ m = 0 by lia)) (fun _ => rfl) fun _ => rfl)
theorem all_body {Φ : OK} {s r : List Nat} {n : Nat} {pat : Bool} {at0 : V} {x y : Option V} {μ : Mem} (hs : s.length ≤ 100000) (h : At s n r) (c1 : ∀ (b : Bool) (k : Nat), k ≤ r.length → Φ 15 [.str s, .int ((n + k : Nat)), .bool b] μ = .ok (.int ((n + k + oneLen b (r.drop k) : Nat))) μ) :
   xSs Φ f_all_subscripts_b1 (allL s at0 pat n x y) μ =
     if aOne pat r = 0 then .ret (.int (n : Nat)) μ
     else .next (allL s at0 pat (n + arrow r + aOne pat r) (some (.int ((n + arrow r : Nat)))) (some (.int ((n + arrow r + aOne pat r : Nat))))) μ := by
 have f1 := h.slice0 hs 2 (by decide)
 have c2 := c1 (pat && decide (arrow r = 0)) (arrow r) (arrow_le r)
 refine z_as (P := fun x => x) rfl ?_
 by_cases ha : r.take 2 = [45, 62]
 · have e : arrow r = 2 := if_pos ha
   unfold aOne
   rw [e] at c2 ⊢
   exact z_t (P := fun x => x) (x_eqT (lift_ok f1) ha) (z_as (P := sQ (fun x => x) Φ _) (v := .int ((n + 2 : Nat))) rfl (z_nq (all_tail c2)))
 · have e : arrow r = 0 := if_neg ha
   unfold aOne
   rw [e] at c2 ⊢
   exact z_f (P := fun x => x) (x_eqF (lift_ok f1) ha) (all_tail (k := 0) c2)
noncomputable abbrev allW : S := .whl (.bool true) f_all_subscripts_b1
theorem all_loop {Φ : OK} {s : List Nat} {pat : Bool} {at0 : V} {μ : Mem} (hs : s.length ≤ 100000) (c1 : ∀ (b : Bool) (n : Nat) (r : List Nat), At s n r → Φ 15 [.str s, .int (n : Nat), .bool b] μ = .ok (.int ((n + oneLen b r : Nat))) μ) : ∀ (k : Nat) (r : List Nat) (n : Nat) (x y : Option V), r.length ≤ k → At s n r →
   xS Φ allW (allL s at0 pat n x y) μ = .ret (.int ((n + allLen pat r : Nat))) μ := by
 intro k
 induction k with
 | zero =>
   intro r n x y hk h
   have hz : aOne pat r = 0 := Nat.le_zero.mp (Nat.le_trans (Nat.le_trans (Nat.le_add_left _ _) (step_le pat r)) hk)
   rw [whl_turn, allLen_eq, if_pos hz, e_bool, whK_t, all_body hs h fun b k hk => c1 b _ _ (h.next k hk), if_pos hz]; rfl
 | succ k ih =>
   intro r n x y hk h
   rw [whl_turn, allLen_eq, e_bool, whK_t, all_body hs h fun b k hk => c1 b _ _ (h.next k hk)]
   by_cases hz : aOne pat r = 0
   · rw [if_pos hz, if_pos hz]; rfl
   · have h2 := h.next (arrow r + aOne pat r) (step_le pat r)
     have h3 : (r.drop (arrow r + aOne pat r)).length ≤ k := by rw [List.length_drop]; lia
     rw [← Nat.add_assoc] at h2
     rw [if_neg hz, if_neg hz, bodyK_next, ih _ _ _ _ h3 h2, ← Nat.add_assoc, ← Nat.add_assoc]
theorem c_all {s r : List Nat} {n D : Nat} {pat : Bool} {μ : Mem} (hs : s.length ≤ 100000) (h : At s n r) (hD : 4 ≤ D) : evCall fnTab D 16 [.str s, .int (n : Nat), .bool pat] μ = .ok (.int ((n + allLen pat r : Nat))) μ := by
 obtain ⟨d, rfl, hd⟩ := succ_of hD
 rw [evCall_succ rfl]
 refine run_fn rfl (z_as (P := finK) rfl ?_)
 rw [ss_cons]
 exact (congrArg (fun x => finK (seqK _ x)) (all_loop (at0 := .int (n : Nat)) (pat := pat) hs (fun b n r h => c_one (pat := b) (μ := μ) hs h hd) _ r n none none (Nat.le_refl _) h)).trans rfl
noncomputable def dollars : List Nat → Nat
 | [] => 0
 | c :: r => if c = 36 then dollars r + 1 else 0
theorem dollars_le : ∀ l : List Nat, dollars l ≤ l.length
 | [] => by simp [dollars]
 | c :: r => by
   have := dollars_le r
   unfold dollars
   split <;> simp; lia
noncomputable def baseLen (l : List Nat) : Nat :=
 let k := dollars l
 match l.drop k with
 | [] => 0
 | c :: r => if c = 123 then (match subEnd (c :: r) with
     | some m => k + m
     | none => 0)
   else if nameLen (c :: r) = 0 then 0 else k + nameLen (c :: r)
noncomputable abbrev baseW : S := .whl (.cmp .eq (.slice (.loc 0) (.loc 2) (.bin .add (.loc 2) (.int 1))) (.str [36])) f_base_end_b1
theorem base_c {Φ : OK} {s r : List Nat} {n : Nat} {at0 : V} {x : Option V} {μ : Mem} (hs : s.length ≤ 100000) (h : At s n r) : xE Φ (.cmp .eq (.slice (.loc 0) (.loc 2) (.bin .add (.loc 2) (.int 1))) (.str [36])) [some (.str s), some at0, some (.int (n : Nat)), x] μ = .ok (.bool (r.take 1 == [36])) μ := x_eq (lift_ok (h.slice0 hs 1 (by decide)))
theorem base_loop {Φ : OK} {s : List Nat} {at0 : V} {x : Option V} (hs : s.length ≤ 100000) {μ : Mem} : ∀ (r : List Nat) (n : Nat), At s n r →
   xS Φ baseW [some (.str s), some at0, some (.int (n : Nat)), x] μ = .next [some (.str s), some at0, some (.int ((n + dollars r : Nat))), x] μ := by
 intro r
 induction r with
 | nil =>
   intro n h
   rw [whl_turn, base_c hs h]; rfl
 | cons c r ih =>
   intro n h
   rw [whl_turn, base_c hs h, dollars, show ((c :: r).take 1 == [36]) = decide (c = 36) from eq_dec c 36]
   by_cases hc : c = 36
   · rw [decide_eq_true hc, whK_t, if_pos hc, Nat.add_comm (dollars r), ← Nat.add_assoc]
     exact ih (n + 1) h.succ
   · rw [decide_eq_false hc, whK_f, if_neg hc]; rfl
theorem bs_name {Φ : OK} {s : List Nat} {n k x : Nat} {μ : Mem} (cn : Φ 10 [.str s, .int ((n + k : Nat))] μ = .ok (.int ((n + k + x : Nat))) μ) :
   finK (xSs Φ (.cons (.assign 3 (.call 10 (.cons (.loc 0) (.cons (.loc 2) .nil)))) (.cons (.ret (.ite (.cmp .eq (.loc 3) (.loc 2)) (.loc 1) (.loc 3))) .nil)) [some (.str s), some (.int (n : Nat)), some (.int ((n + k : Nat))), none] μ) = numK n μ (if x = 0 then 0 else k + x) :=
 z_as (P := finK) cn (z_ret (x_ite (k := numK n μ) (x_eqv rfl rfl) (decide_eq_decide.mpr (show ((n + k + x : Nat) : Int) = ((n + k : Nat) : Int) ↔ x = 0 by lia)) (fun _ => rfl) fun _ => by rw [numK, ← Nat.add_assoc]; rfl) rfl)
theorem bs_sub {Φ : OK} {P : F → O V} {s : List Nat} {n k : Nat} {o : Option Nat} {μ : Mem} (hs : Φ 12 [.str s, .int ((n + k : Nat))] μ = .ok (match o with | some m => .int ((n + k + m : Nat)) | none => .int (-1)) μ) (hP : ∀ v, P (.ret v μ) = .ok v μ) :
   P (xSs Φ (.cons (.assign 3 (.call 12 (.cons (.loc 0) (.cons (.loc 2) .nil)))) (.cons (.ret (.ite (.cmp .lt (.loc 3) (.int 0)) (.loc 1) (.loc 3))) .nil)) [some (.str s), some (.int (n : Nat)), some (.int ((n + k : Nat))), none] μ) = numK n μ (match (generalizing := false) o with | some m => k + m | none => 0) := by
 cases o with
 | none => exact z_as hs (z_ret (x_itT rfl rfl) (hP _))
 | some m => exact z_as hs (z_ret (x_itF (by rw [x_lt (i := ((n + k + m : Nat) : Int)) (j := 0) rfl rfl, decide_eq_false (by lia)]) rfl) (by rw [numK, ← Nat.add_assoc]; exact hP _))
theorem c_base {s r : List Nat} {n D : Nat} {μ : Mem} (hs : Okt s) (h : At s n r) (hD : 4 ≤ D) : evCall fnTab D 17 [.str s, .int (n : Nat)] μ = .ok (.int ((n + baseLen r : Nat))) μ := by
 obtain ⟨d, rfl, hd⟩ := succ_of hD
 rw [evCall_succ rfl]
 refine run_fn rfl ?_
 have L := base_loop (Φ := evCall fnTab d) (at0 := .int (n : Nat)) (x := none) hs.1 (μ := μ) r n h
 have h2 := h.next (dollars r) (dollars_le r)
 have f2 := h2.slice0 hs.1 1 (by decide)
 have cn := c_name (μ := μ) hs h2 hd
 have cs := fun c r' n h hc => c_sub (s := s) (n := n) (op := c) (r := r') (μ := μ) (D := d) hs.1 h hc (by lia)
 generalize evCall fnTab d = Φ at *
 show _ = numK n μ (baseLen r)
 refine z_as (P := finK) rfl (z_st L ?_)
 unfold baseLen
 dsimp only
 generalize r.drop (dollars r) = r2 at h2 f2 cn ⊢
 cases r2 with
 | nil => exact z_f (x_eq (t := []) (lift_ok f2)) (bs_name cn)
 | cons c r' =>
   refine z_ite (k := numK n μ) (x_eq (t := [c]) (lift_ok f2)) (eq_dec c 123) (fun hc => ?_) fun _ => ?_
   · have hsub := cs _ _ _ h2 (.inr hc)
     generalize subEnd (c :: r') = o at hsub ⊢
     exact bs_sub (P := sQ finK Φ _) hsub fun _ => rfl
   · exact bs_name cn
theorem strip_mem {cs s : List Nat} {c : Nat} (h : c ∈ stripIn cs s) : c ∈ s := by
 rw [stripIn_eq] at h
 simp only [List.mem_reverse] at h
 have h1 := (List.dropWhile_sublist _).mem h
 simp only [List.mem_reverse] at h1
 exact (List.dropWhile_sublist _).mem h1
theorem strip_len (cs s : List Nat) : (stripIn cs s).length ≤ s.length := by
 rw [stripIn_eq, List.length_reverse]
 have h1 := (List.dropWhile_sublist cs.contains (l := (s.dropWhile cs.contains).reverse)).length_le
 have h2 := (List.dropWhile_sublist cs.contains (l := s)).length_le
 simp [-Int.natCast_add] at h1
 lia
theorem Okt.strip {cs s : List Nat} (h : Okt s) : Okt (stripIn cs s) := ⟨Nat.le_trans (strip_len cs s) h.1, fun c hc => h.2 c (strip_mem hc)⟩
theorem Okt.take {s : List Nat} (h : Okt s) (n : Nat) : Okt (s.take n) := ⟨Nat.le_trans (by simp [-Int.natCast_add]; lia) h.1, fun c hc => h.2 c (List.mem_of_mem_take hc)⟩
theorem Okt.of_at {s r : List Nat} {n : Nat} (h : Okt s) (a : At s n r) : Okt r := a.drop ▸ h.drop n
noncomputable def braced (l : List Nat) (m : Nat) : Bool := match l with
 | [] => false
 | c :: r => decide (c = 123) && !(stripIn [32, 9, 10] (r.take (m - 2))).isEmpty &&
     (dg (stripIn [32, 9, 10] (r.take (m - 2))) || decide (nameLen (stripIn [32, 9, 10] (r.take (m - 2))) = (stripIn [32, 9, 10] (r.take (m - 2))).length))
theorem c_braced {s r : List Nat} {n c m D : Nat} {μ : Mem} (hs : Okt s) (h : At s n (c :: r)) (hm1 : 1 ≤ m) (hm2 : m ≤ r.length + 1) (hD : 4 ≤ D) :
   evCall fnTab D 18 [.str s, .int (n : Nat), .int ((n + m : Nat))] μ = .ok (.bool (braced (c :: r) m)) μ := by
 obtain ⟨d, rfl, hd⟩ := succ_of hD
 rw [evCall_succ rfl]
 refine run_fn rfl ?_
 have hlen := h.len
 simp [-Int.natCast_add] at hlen
 have hs1 := hs.1
 have e1 : ((n + m : Nat) : Int) - 1 = ((n + m - 1 : Nat) : Int) := by lia
 have e3 : n + m - 1 - (n + 1) = m - 2 := by lia
 have f2 : sliceV (.str s) (.int ((n + 1 : Nat))) (.int ((n + m - 1 : Nat))) = some (.str (r.take (m - 2))) := by
   rw [sl_nn (by lia) (by lia), h.dropk, e3]; rfl
 have hi : Okt (stripIn [32, 9, 10] (r.take (m - 2))) := ((hs.of_at h.succ).take _).strip
 have hd1 := fun (t : List Nat) (μ : Mem) => c_digits (s := t) (μ := μ) (show 1 ≤ d by lia)
 unfold braced
 dsimp only
 generalize hinn : stripIn [32, 9, 10] (r.take (m - 2)) = inner at hi
 have cn : ∀ μ, evCall fnTab d 10 [.str inner, .int 0] μ = .ok (.int ((nameLen inner : Nat))) μ := fun μ => by
   have := c_name (s := inner) (n := 0) (r := inner) (D := d) (μ := μ) hi ⟨rfl, by lia⟩ hd
   rw [Nat.zero_add] at this
   exact this
 cases inner with
 | nil => simp [-Int.natCast_add, f_is_braced_name, e1, f2, okMe, methV, meV, hinn, ix_s, h.head]
 | cons a b =>
   by_cases hc : c = 123
   · simp [-Int.natCast_add, f_is_braced_name, e1, f2, okMe, methV, meV, hinn, ix_s, h.head, hc, hd1, cn]
   · simp [-Int.natCast_add, f_is_braced_name, e1, f2, okMe, methV, meV, hinn, ix_s, h.head, hc]
section
variable {Φ : Nat → List V → Mem → O V} {l : Loc} {μ : Mem}
theorem g_at {i : Nat} {v : V} (h : (globTab[i]?).map (·.2) = some v) : xE Φ (.gl i) l μ = .ok v μ := by rw [e_gl, h]; rfl
theorem g0 : xE Φ (.gl 0) l μ = .ok (.str [48,49,50,51,52,53,54,55,56,57,97,98,99,100,101,102]) μ := g_at (by rfl)
theorem g1 : xE Φ (.gl 1) l μ = .ok (.int 1114111) μ := g_at (by rfl)
theorem g2 : xE Φ (.gl 2) l μ = .ok (.str [117, 108]) μ := g_at (by rfl)
theorem g3 : xE Φ (.gl 3) l μ = .ok (.int 40) μ := g_at (by rfl)
theorem g4 : xE Φ (.gl 4) l μ = .ok (.int 8) μ := g_at (by rfl)
theorem g5 : xE Φ (.gl 5) l μ = .ok (.str [38, 44, 59, 33, 64, 47, 34]) μ := g_at (by rfl)
theorem g6 : xE Φ (.gl 6) l μ = .ok (.str [96, 39, 43, 124, 46]) μ := g_at (by rfl)
end
theorem nameBody_le : ∀ (k : Nat) (l : List Nat), l.length ≤ k → nameBody l ≤ l.length
 | _, [], _ => by simp [-Int.natCast_add, nameBody]
 | _, [c], _ => by simp only [nameBody]; split <;> simp [-Int.natCast_add]
 | 0, c :: e :: r, h => by simp [-Int.natCast_add] at h
 | k + 1, c :: e :: r, h => by
   simp [-Int.natCast_add] at h
   simp only [nameBody]
   split
   · have := nameBody_le k (e :: r) (by simp [-Int.natCast_add]; lia)
     simp [-Int.natCast_add] at this ⊢; lia
   · split
     · have := nameBody_le k r (by lia)
       simp [-Int.natCast_add]; lia
     · simp [-Int.natCast_add]
theorem At.ix {s r : List Nat} {n c : Nat} {μ : Mem} (h : At s n (c :: r)) : idxV μ (.str s) (.int (n : Nat)) = some (.str [c]) := by
 rw [ix_s, h.head]; rfl
theorem nameLen_le (l : List Nat) : nameLen l ≤ l.length := by
 unfold nameLen
 by_cases h : l.take 2 = [58, 58] ∧ start (l.drop 2) = true
 · have hl : 2 ≤ l.length := by
     have := congrArg List.length h.1
     simp [-Int.natCast_add] at this; lia
   have := nameBody_le _ (l.drop 2) (Nat.le_refl _)
   simp only [h, and_self, if_true]
   simp [-Int.natCast_add] at this; lia
 · have := nameBody_le _ l (Nat.le_refl _)
   simp only [h, if_false, List.drop_zero]
   split <;> lia
theorem baseLen_le (l : List Nat) : baseLen l ≤ l.length := by
 unfold baseLen
 dsimp only
 have hd := dollars_le l
 split
 · simp [-Int.natCast_add]
 · rename_i c r hr
   have hl : l.length = dollars l + (r.length + 1) := by
     have := congrArg List.length hr
     simp [-Int.natCast_add] at this; lia
   split
   · split
     · rename_i m hm
       have := subEnd_le hm
       lia
     · simp [-Int.natCast_add]
   · split
     · simp [-Int.natCast_add]
     · have := nameLen_le (c :: r)
       simp [-Int.natCast_add] at this
       lia
noncomputable def digs : List Nat → Nat
 | [] => 0
 | c :: r => if digit c = true then digs r + 1 else 0
theorem digs_le : ∀ l : List Nat, digs l ≤ l.length
 | [] => by simp [-Int.natCast_add, digs]
 | c :: r => by
   have := digs_le r
   unfold digs
   split <;> simp [-Int.natCast_add]; lia
noncomputable def scalarLen (pat : Bool) (r : List Nat) : Nat := match r with
 | [] => 0
 | c :: r' =>
   if (pat && (decide (c = 41) || decide (c = 124))) = true then 0
   else if c = 35 then (if baseLen r' = 0 then 0 else 2 + baseLen r')
   else if digit c = true then (if c = 48 then 2 + allLen pat r' else 2 + digs r' + allLen pat (r'.drop (digs r')))
   else if 0 < baseLen (c :: r') then
     (if (braced (c :: r') (baseLen (c :: r')) && !decide (((c :: r').drop (baseLen (c :: r'))).take 2 = [45, 62])) = true then 1 + baseLen (c :: r') else 1 + baseLen (c :: r') + allLen pat ((c :: r').drop (baseLen (c :: r'))))
   else if ([38, 44, 59, 33, 64, 47, 34].contains c || ([96, 39, 43, 124, 46].contains c && !pat && !decide ((c :: r').take 2 = [43, 91]))) = true then 2 + allLen pat r'
   else 0
noncomputable abbrev digW : S := .whl (.and (.cons (.cmp .ne (.loc 3) (.str [48])) (.cons (.cmp .lt (.loc 4) (.bi .len (.cons (.loc 0) .nil))) (.cons (.chain (.str [48]) (.idx (.loc 0) (.loc 4)) (.str [57])) .nil)))) f_scalar_end_b1
theorem dig_loop {s : List Nat} {d c : Nat} {at0 : V} {p x : Option V} {μ : Mem} : ∀ (r : List Nat) (n : Nat), At s n r →
   xS (evCall fnTab d) digW [some (.str s), some at0, p, some (.str [c]), some (.int (n : Nat)), x] μ = .next [some (.str s), some at0, p, some (.str [c]), some (.int ((n + (if c = 48 then 0 else digs r) : Nat))), x] μ := by
 intro r
 induction r with
 | nil =>
   intro n h
   rw [whl_turn]
   by_cases hc : c = 48
   · simp [-Int.natCast_add, hc]
   · simp [-Int.natCast_add, hc, h.nil, digs]
 | cons e r ih =>
   intro n h
   have i2 := ih (n + 1) h.succ
   have hb : ∀ μ, xSs (evCall fnTab d) f_scalar_end_b1 [some (.str s), some at0, p, some (.str [c]), some (.int (n : Nat)), x] μ = .next [some (.str s), some at0, p, some (.str [c]), some (.int ((n + 1 : Nat))), x] μ := fun μ => by simp [-Int.natCast_add, f_scalar_end_b1]
   rw [whl_turn]
   by_cases hc : c = 48
   · simp [-Int.natCast_add, hc]
   · rw [if_neg hc] at i2 ⊢
     by_cases he : digit e = true
     · have hh : 48 ≤ e ∧ e ≤ 57 := by simpa [digit] using he
       have e1 : n + 1 + digs r = n + (digs r + 1) := by lia
       rw [e1] at i2
       simp [-Int.natCast_add, hc, h.lt, h.ix, hb, digs, he, hh.1, hh.2, i2]
     · have hh : 48 ≤ e → ¬ e ≤ 57 := by simpa [digit] using he
       by_cases h1 : 48 ≤ e
       · simp [-Int.natCast_add, hc, h.lt, h.ix, digs, he, h1, hh h1]
       · simp [-Int.natCast_add, hc, h.lt, h.ix, digs, he, h1]
theorem c_scalar {s r : List Nat} {n g D : Nat} {pat : Bool} {μ : Mem} (hs : Okt s) (h : At s n (g :: r)) (hD : 6 ≤ D) : evCall fnTab D 19 [.str s, .int (n : Nat), .bool pat] μ = .ok (.int ((n + scalarLen pat r : Nat))) μ := by
 obtain ⟨d, rfl, hd⟩ := succ_of hD
 rw [evCall_succ rfl]
 refine run_fn rfl ?_
 have f1 := h.slice hs.1 1 2 (by decide) (by decide)
 have f3 := h.slice hs.1 1 3 (by decide) (by decide)
 have h1 := h.succ
 have L := fun c n r h => dig_loop (s := s) (d := d) (c := c) (at0 := .int (n : Nat)) (p := some (.bool pat)) (x := none) (μ := μ) r (n + 2) h
 have cb := fun n r h => c_base (s := s) (r := r) (n := n) (D := d) (μ := μ) hs h (by lia)
 have ca := fun n r h => c_all (s := s) (r := r) (n := n) (pat := pat) (D := d) (μ := μ) hs.1 h (by lia)
 have cbr := fun m r' c h k5 hb => c_braced (s := s) (n := n + 1) (r := r') (c := c) (m := m) (D := d) (μ := μ) hs h k5 hb (by lia)
 show _ = numK n μ (scalarLen pat r)
 generalize evCall fnTab d = Φ at *
 refine z_as (P := finK) (lift_ok f1) ?_
 cases r with
 | nil => exact z_t rfl (z_ret rfl rfl)
 | cons c r' =>
   have h2 : At s (n + 2) r' := h1.succ
   unfold scalarLen
   dsimp only
   refine z_ite (k := numK n μ) (x_or2 rfl (x_and2 rfl rfl)) (show (([c] == []) || (pat && [41, 124].contains c)) = _ by rw [has_2, Bool.decide_eq_true]; rfl) (fun _ => z_ret rfl rfl) fun _ => ?_
   refine z_ite (k := numK n μ) rfl (eq_dec c 35) (fun k => ?_) fun _ => ?_
   · exact z_as (cb _ _ h2) (z_ret (x_ite (k := numK n μ) rfl (decide_eq_decide.mpr (show ((n + 2 + baseLen r' : Nat) : Int) = (n : Int) + 2 ↔ baseLen r' = 0 by lia)) (fun _ => rfl) fun _ => by rw [numK, ← Nat.add_assoc]; rfl) rfl)
   refine z_ite (k := numK n μ) (x_chain rfl rfl rfl) (show digit c = _ from Bool.decide_eq_true.symm) (fun k => ?_) fun _ => ?_
   · refine z_as rfl (z_st (L c n r' h2) ?_)
     by_cases k4 : c = 48
     · rw [if_pos k4, if_pos k4]
       exact z_ret (ca _ _ h2) (by rw [numK, ← Nat.add_assoc]; rfl)
     · rw [if_neg k4, if_neg k4]
       exact z_ret (ca _ _ (h2.next (digs r') (digs_le r'))) (by rw [numK, ← Nat.add_assoc, ← Nat.add_assoc]; rfl)
   have hbl := baseLen_le (c :: r')
   refine z_as (cb _ _ h1) ?_
   have hk : ∀ b : Nat, decide ((n : Int) + 1 < ((n + 1 + b : Nat) : Int)) = decide (0 < b) := fun b => decide_eq_decide.mpr (by lia)
   refine z_ite (k := numK n μ) rfl (hk _) (fun k5 => ?_) fun k5 => ?_
   · have h3 := h1.next (baseLen (c :: r')) hbl
     refine z_as (x_and2 (cbr _ _ _ h1 k5 hbl) (x_ne (lift_ok (h3.slice0 hs.1 2 (by decide))))) (z_ret (x_ite (k := numK n μ) rfl ?_ (fun _ => ?_) fun _ => ?_) rfl)
     · rw [Bool.decide_eq_true, eqs_dec]
     · rw [numK, ← Nat.add_assoc]; rfl
     · rw [numK, ← Nat.add_assoc, ← Nat.add_assoc]; exact ca _ _ h3
   · have e : n + 1 + baseLen (c :: r') = n + 1 := by lia
     rw [e]
     refine z_ite (k := numK n μ) (x_or2 (x_in rfl g5) (x_and3 (x_in rfl g6) (x_not rfl) (x_ne (lift_ok f3)))) ?_ (fun _ => z_ret (ca _ _ h2) ?_) fun _ => z_ret rfl rfl
     · rw [Bool.decide_eq_true, eqs_dec, Bool.and_assoc]; rfl
     · rw [numK, ← Nat.add_assoc]; rfl
noncomputable def arrayLen (pat : Bool) (r : List Nat) : Nat :=
 if baseLen r = 0 then 0 else if braced r (baseLen r) = true then 1 + baseLen r else 1 + baseLen r + oneLen pat (r.drop (baseLen r))
theorem ar_run {Φ : OK} {s : List Nat} {n m o : Nat} {b pat : Bool} {μ : Mem} (cb : Φ 17 [.str s, .int ((n + 1 : Nat))] μ = .ok (.int ((n + 1 + m : Nat))) μ) (cr : m ≠ 0 → Φ 18 [.str s, .int ((n + 1 : Nat)), .int ((n + 1 + m : Nat))] μ = .ok (.bool b) μ) (c1 : Φ 15 [.str s, .int ((n + 1 + m : Nat)), .bool pat] μ = .ok (.int ((n + 1 + m + o : Nat))) μ) :
   finK (xSs Φ f_array_end.body [some (.str s), some (.int (n : Nat)), some (.bool pat), none] μ) = numK n μ (if m = 0 then 0 else if b = true then 1 + m else 1 + m + o) :=
 z_as (P := finK) (x_ca2 rfl rfl cb) (z_ite (k := numK n μ) (x_eqv rfl rfl) (decide_eq_decide.mpr (show ((n + 1 + m : Nat) : Int) = ((n + 1 : Nat) : Int) ↔ m = 0 by lia)) (fun _ => rfl) fun hm =>
   z_ret (x_ite (k := numK n μ) (x_ca3 rfl rfl rfl (cr hm)) Bool.decide_eq_true.symm (fun _ => by rw [numK, ← Nat.add_assoc]; rfl) (fun _ => (x_ca3 rfl rfl rfl c1).trans (by rw [numK, ← Nat.add_assoc, ← Nat.add_assoc]))) rfl)
theorem c_array {s r : List Nat} {n g D : Nat} {pat : Bool} {μ : Mem} (hs : Okt s) (h : At s n (g :: r)) (hD : 6 ≤ D) : evCall fnTab D 20 [.str s, .int (n : Nat), .bool pat] μ = .ok (.int ((n + arrayLen pat r : Nat))) μ := by
 obtain ⟨d, rfl, hd⟩ := succ_of hD
 have h1 := h.succ
 have hbl := baseLen_le r
 have h4 : 4 ≤ d := Nat.le_trans (by decide) hd
 refine (evCall_succ rfl).trans (run_fn rfl (ar_run (c_base hs h1 h4) (fun hm => ?_) (c_one hs.1 (h1.next _ hbl) (Nat.le_trans (by decide) hd))))
 generalize baseLen r = m at hbl hm
 cases r with
 | nil => exact absurd (Nat.le_zero.mp hbl) hm
 | cons c r' => exact c_braced (m := m) hs h1 (Nat.pos_of_ne_zero hm) hbl h4
noncomputable def fig (c : Nat) : Option Nat := if 48 ≤ c ∧ c ≤ 57 then some (c - 48) else if 97 ≤ lowerC c ∧ lowerC c ≤ 102 then some (lowerC c - 87) else none
theorem find_fig {c : Nat} (hc : c < 128) : findC (lowerC c) [48,49,50,51,52,53,54,55,56,57,97,98,99,100,101,102] 0 = match fig c with | some v => ((v : Nat) : Int) | none => -1 := by
 have : ∀ c : Fin 128, findC (lowerC c.1) [48,49,50,51,52,53,54,55,56,57,97,98,99,100,101,102] 0 = match fig c.1 with | some v => ((v : Nat) : Int) | none => -1 := by decide +kernel
 exact this ⟨c, hc⟩
noncomputable def cap (v : Nat) : Nat := min v 1114112
noncomputable def digGo (base : Nat) : Nat → List Nat → Nat → Nat × Nat
 | 0, _, v => (v, 0)
 | _ + 1, [], v => (v, 0)
 | most + 1, c :: r, v => match fig c with
   | some x => if x < base then ((digGo base most r (cap (v * base + x))).1, (digGo base most r (cap (v * base + x))).2 + 1) else (v, 0)
   | none => (v, 0)
noncomputable abbrev dvW : S := .whl (.and (.cons (.cmp .lt (.loc 5) (.bi .len (.cons (.loc 0) .nil))) (.cons (.cmp .lt (.loc 5) (.bin .add (.loc 1) (.loc 2))) .nil))) f_digits_value_b1
noncomputable abbrev dvL (s : List Nat) (a most base v n : Nat) (x : Option V) : Loc := [some (.str s), some (.int (a : Nat)), some (.int (most : Nat)), some (.int (base : Nat)), some (.int (v : Nat)), some (.int (n : Nat)), x]
theorem x_bi2 {Φ : OK} {l : Loc} {μ μ' μ₁ : Mem} {a b : E} {x y v : V} {f : Bi} (h : xE Φ a l μ = .ok x μ₁) (h' : xE Φ b l μ₁ = .ok y μ') (k : biV μ' f [x, y] = some v) : xE Φ (.bi f (.cons a (.cons b .nil))) l μ = .ok v μ' := by
 rw [e_bi, es_cons, h, ob_ok, consK_r, es_cons, h']; exact lift_ok k
theorem dv_cond {Φ : OK} {s : List Nat} {a most base v n : Nat} {x : Option V} {μ : Mem} : xE Φ (.and (.cons (.cmp .lt (.loc 5) (.bi .len (.cons (.loc 0) .nil))) (.cons (.cmp .lt (.loc 5) (.bin .add (.loc 1) (.loc 2))) .nil))) (dvL s a most base v n x) μ = .ok (.bool (decide (n < s.length) && decide (n < a + most))) μ :=
 (x_and2 (x_ltlen rfl rfl) (x_lt (i := (n : Nat)) (j := ((a + most : Nat) : Int)) rfl rfl)).trans (congrArg (fun b => O.ok (V.bool (decide (n < s.length) && b)) μ) (decide_eq_decide.mpr Int.ofNat_lt))
theorem cap_min {n : Nat} : (if (1114112 : Int) < ((n : Nat) : Int) then (1114112 : Int) else ((n : Nat) : Int)) = ((cap n : Nat) : Int) := by
 unfold cap; split <;> lia
theorem dv_or (y base : Nat) : (decide (((y : Nat) : Int) < 0) || decide (((base : Nat) : Int) ≤ ((y : Nat) : Int))) = !decide (y < base) := by
 rw [decide_eq_false (Int.not_lt.mpr (Int.natCast_nonneg y)), Bool.false_or, ← decide_not]
 exact decide_eq_decide.mpr (by lia)
theorem dv_body {Φ : OK} {s r : List Nat} {a most base v n c : Nat} {x : Option V} {μ : Mem} (hs : Okt s) (h : At s n (c :: r)) (hv : v ≤ 1114112) (hb : base ≤ 16) :
   xSs Φ f_digits_value_b1 (dvL s a most base v n x) μ = match fig c with
     | some y => if y < base then .next (dvL s a most base (cap (v * base + y)) (n + 1) (some (.int (y : Nat)))) μ else .brk (dvL s a most base v n (some (.int (y : Nat)))) μ
     | none => .brk (dvL s a most base v n (some (.int (-1)))) μ := by
 have hc : c < 128 := hs.2 c (List.mem_of_getElem? h.head)
 have e := find_fig hc
 have xf : xE Φ (.me .find (.gl 0) (.cons (.me .lower (.idx (.loc 0) (.loc 5)) .nil) .nil)) (dvL s a most base v n x) μ = .ok (.int (findC (lowerC c) [48,49,50,51,52,53,54,55,56,57,97,98,99,100,101,102] 0)) μ :=
   x_me1 g0 rfl (x_me0 (x_idx rfl rfl (ix_s.trans (congrArg (Option.map _) h.head))) rfl (lift_ok (if_pos hc))) rfl fun _ => rfl
 rw [e] at xf
 refine z_as (P := fun x => x) xf ?_
 generalize fig c = o
 cases o with
 | none => exact z_t (P := fun x => x) (x_orT (x_lt (i := -1) (j := 0) rfl rfl)) rfl
 | some y =>
   have t : xE Φ (.or (.cons (.cmp .lt (.loc 6) (.int 0)) (.cons (.cmp .ge (.loc 6) (.loc 3)) .nil))) (dvL s a most base v n (some (.int (y : Nat)))) μ = .ok (.bool (!decide (y < base))) μ := by
     rw [← dv_or]; exact x_or2 (x_lt rfl rfl) (x_ge rfl rfl)
   show xSs Φ _ (dvL s a most base v n (some (.int (y : Nat)))) μ = if y < base then _ else _
   by_cases hy : y < base
   · rw [decide_eq_true hy] at t
     rw [if_pos hy]
     have e4 : binV .mul (.int (v : Nat)) (.int (base : Nat)) = some (.int ((v * base : Nat))) := bin_mul_ii (Nat.lt_of_le_of_lt hv (by decide)) (Nat.lt_of_le_of_lt hb (by decide))
     exact z_f (P := fun x => x) t (z_as (P := fun x => x) (x_bi2 (x_bin (x_bin rfl rfl e4) rfl (bin_add_ii _ _)) (x_bin g1 rfl rfl) (congrArg (fun i => some (V.int i)) cap_min)) rfl)
   · rw [decide_eq_false hy] at t
     rw [if_neg hy]
     exact z_t (P := fun x => x) t rfl
theorem dv_loop {Φ : OK} {s : List Nat} {a most base : Nat} (hs : Okt s) (hb : base ≤ 16) {μ : Mem} : ∀ (r : List Nat) (n v k : Nat) (x : Option V), At s n r → v ≤ 1114112 → n + k = a + most →
   ∃ y, xS Φ dvW (dvL s a most base v n x) μ = .next (dvL s a most base (digGo base k r v).1 (n + (digGo base k r v).2) y) μ := by
 intro r
 induction r with
 | nil =>
   intro n v k x h hv hk
   rw [whl_turn, dv_cond, decide_eq_false (h.nil ▸ Nat.lt_irrefl n), Bool.false_and, whK_f]
   cases k <;> exact ⟨x, rfl⟩
 | cons c r ih =>
   intro n v k x h hv hk
   rw [whl_turn, dv_cond]
   cases k with
   | zero => rw [decide_eq_false (p := n < a + most) (hk ▸ Nat.lt_irrefl n), Bool.and_false, whK_f]; exact ⟨x, rfl⟩
   | succ k =>
     rw [decide_eq_true h.lt, decide_eq_true (hk ▸ Nat.lt_add_of_pos_right (Nat.succ_pos k)), Bool.and_self, whK_t, dv_body hs h hv hb, digGo]
     generalize fig c = o
     cases o with
     | none => exact ⟨_, rfl⟩
     | some y =>
       dsimp only
       by_cases hy : y < base
       · obtain ⟨z, hz⟩ := ih (n + 1) (cap (v * base + y)) k (some (.int (y : Nat))) h.succ (Nat.min_le_right _ _) ((Nat.succ_add_eq_add_succ n k).trans hk)
         rw [if_pos hy, if_pos hy, bodyK_next]
         exact ⟨z, hz.trans (by rw [Nat.add_assoc, Nat.add_comm 1])⟩
       · rw [if_neg hy, if_neg hy]; exact ⟨_, rfl⟩
theorem c_digv {s r : List Nat} {n most base D : Nat} {μ : Mem} (hs : Okt s) (h : At s n r) (hb : base ≤ 16) (hD : 1 ≤ D) : evCall fnTab D 1 [.str s, .int (n : Nat), .int (most : Nat), .int (base : Nat)] μ = .ok (.tup [.int (((digGo base most r 0).1 : Nat)), .int ((n + (digGo base most r 0).2 : Nat))]) μ := by
 obtain ⟨d, rfl, _⟩ := succ_of hD
 obtain ⟨y, hy⟩ := dv_loop (Φ := evCall fnTab d) (a := n) (most := most) hs hb (μ := μ) r n 0 most none h (Nat.zero_le _) rfl
 exact (evCall_succ rfl).trans (run_fn rfl (z_as (P := finK) rfl (z_as (P := finK) rfl (z_st (l' := dvL s n most base (digGo base most r 0).1 (n + (digGo base most r 0).2) y) hy (z_ret (P := finK) (x_tup2 rfl rfl) rfl)))))
theorem c_coded {v D : Nat} {μ : Mem} (hD : 1 ≤ D) : evCall fnTab D 2 [.int (v : Nat)] μ = if 1114111 < v then .exc μ else .ok (.str [v]) μ := by
 obtain ⟨d, rfl, _⟩ := succ_of hD
 rw [evCall_succ rfl]
 refine run_fn rfl ?_
 have e1 : ((1114111 : Int) < (v : Nat)) = (1114111 < v) := propext (by lia)
 by_cases h : 1114111 < v
 · simp [-Int.natCast_add, f_coded_sign, g1, e1, h]
 · simp [-Int.natCast_add, f_coded_sign, g1, e1, h, bi_chr (show v ≤ 1114111 by lia)]
noncomputable def idxOf (c : Nat) : List Nat → Option Nat
 | [] => none
 | x :: r => if x = c then some 0 else (idxOf c r).map (· + 1)
theorem findC_eq (c : Nat) : ∀ (l : List Nat) (i : Nat), findC c l i = match idxOf c l with | some j => ((i + j : Nat) : Int) | none => -1
 | [], i => rfl
 | x :: r, i => by
   unfold findC idxOf
   by_cases h : x = c
   · simp [-Int.natCast_add, h]
   · rw [if_neg h, if_neg h, findC_eq c r (i + 1)]
     cases idxOf c r with
     | none => rfl
     | some j => simp [-Int.natCast_add]; lia
theorem idxOf_lt {c : Nat} : ∀ {l : List Nat} {j : Nat}, idxOf c l = some j → j < l.length
 | x :: r, j, h => by
   unfold idxOf at h
   split at h
   · cases h; simp [-Int.natCast_add]
   · obtain ⟨i, hi, rfl⟩ := Option.map_eq_some_iff.mp h
     have := idxOf_lt hi
     simp [-Int.natCast_add]; lia
theorem digGo_more (base : Nat) : ∀ (r : List Nat) (k v : Nat), r.length ≤ k → digGo base k r v = digGo base r.length r v
 | [], k, v, _ => by cases k <;> simp [-Int.natCast_add, digGo]
 | c :: r, 0, v, h => by simp [-Int.natCast_add] at h
 | c :: r, k + 1, v, h => by
   simp [-Int.natCast_add] at h
   simp only [List.length_cons, digGo]
   cases fig c with
   | none => rfl
   | some x => simp only [digGo_more base r k _ h]
theorem digGo_bound (base : Nat) (hb : 1 ≤ base) : ∀ (k : Nat) (r : List Nat) (v : Nat), (digGo base k r v).1 + 1 ≤ base ^ k * (v + 1)
 | 0, r, v => by simp [-Int.natCast_add, digGo]
 | k + 1, [], v => by
   have : 1 ≤ base ^ (k + 1) := Nat.one_le_pow _ _ hb
   simp only [digGo]
   exact Nat.le_mul_of_pos_left _ this
 | k + 1, c :: r, v => by
   have h1 : 1 ≤ base ^ (k + 1) := Nat.one_le_pow _ _ hb
   have h2 : v + 1 ≤ base ^ (k + 1) * (v + 1) := Nat.le_mul_of_pos_left _ h1
   simp only [digGo]
   split
   · rename_i x hx
     split
     · rename_i hxb
       have := digGo_bound base hb k r (cap (v * base + x))
       dsimp only
       refine Nat.le_trans this ?_
       have h3 : cap (v * base + x) + 1 ≤ base * (v + 1) := by
         have : cap (v * base + x) ≤ v * base + x := by unfold cap; lia
         rw [Nat.mul_add, Nat.mul_one, Nat.mul_comm base v]
         lia
       calc base ^ k * (cap (v * base + x) + 1) ≤ base ^ k * (base * (v + 1)) := Nat.mul_le_mul_left _ h3
         _ = base ^ (k + 1) * (v + 1) := by rw [Nat.pow_succ, Nat.mul_assoc]
     · exact h2
   · exact h2
noncomputable def codeBr (base : Nat) (l : List Nat) : Option (Nat × Nat) := match idxOf 125 l with
 | none => none
 | some j => if 1114111 < (digGo base ((l.take j).drop 1).length ((l.take j).drop 1) 0).1 then none else some ((digGo base ((l.take j).drop 1).length ((l.take j).drop 1) 0).1, j + 1)
theorem me_find {c n : Nat} {s : List Nat} {μ : Mem} (h : n < 1073741824) : methV μ .find (.str s) [.str [c], .int (n : Nat)] = O.lift (some (.int (findC c (s.drop n) n))) μ := by
 have e : when (0 ≤ (n : Int)) (V.int (findC c (s.drop (n : Int).toNat) (n : Int).toNat)) = some (.int (findC c (s.drop n) n)) := if_pos (Int.natCast_nonneg n)
 exact congrArg (fun o => O.lift o μ) e
theorem c_codeBr {s l : List Nat} {n g base D : Nat} {μ : Mem} (hs : Okt s) (h : At s n (g :: l)) (hg : g ≠ 125) (hb : base ≤ 16) (hD : 2 ≤ D) :
   evCall fnTab D 3 [.str s, .int (n : Nat), .int (base : Nat)] μ = match codeBr base (g :: l) with | none => .exc μ | some (v, m) => .ok (.tup [.str [v], .int ((n + m : Nat))]) μ := by
 obtain ⟨d, rfl, hd⟩ := succ_of hD
 rw [evCall_succ rfl]
 refine run_fn rfl ?_
 have hs1 := hs.1
 have hlen := h.len
 simp only [List.length_cons] at hlen
 have hfd : ∀ μ, methV μ .find (.str s) [.str [125], .int (n : Nat)] = O.lift (some (.int (findC 125 (g :: l) n))) μ := fun μ => by
   rw [me_find (by lia), h.drop]
 have hfe := findC_eq 125 (g :: l) n
 unfold codeBr
 cases hj : idxOf 125 (g :: l) with
 | none =>
   rw [hj] at hfe
   dsimp only at hfe
   simp [-Int.natCast_add, f_braced_code, okMe, hfd, hfe]
 | some j =>
   have hjl := idxOf_lt hj
   simp only [List.length_cons] at hjl
   have hj1 : 1 ≤ j := by
     cases j with
     | zero => simp [-Int.natCast_add, idxOf, hg] at hj
     | succ j => lia
   rw [hj] at hfe
   dsimp only at hfe
   have e2 : ¬ ((n + j : Nat) : Int) < 0 := by lia
   have hat : At (s.take (n + j)) (n + 1) (((g :: l).take j).drop 1) := by
     refine ⟨?_, by simp [-Int.natCast_add]; lia⟩
     rw [List.drop_take, h.dropk, List.drop_take]
     congr 1
     lia
   have cd := fun μ => c_digv (most := n + j) (base := base) (μ := μ) (D := d) (hs.take (n + j)) hat hb (by lia)
   have hlr : (((g :: l).take j).drop 1).length ≤ n + j := by simp [-Int.natCast_add]; lia
   rw [digGo_more base _ _ _ hlr] at cd
   have cc := fun v μ => c_coded (v := v) (μ := μ) (D := d) (by lia)
   dsimp only
   generalize (digGo base (((g :: l).take j).drop 1).length (((g :: l).take j).drop 1) 0) = q at cd ⊢
   by_cases hv : 1114111 < q.1
   · simp [-Int.natCast_add, f_braced_code, okMe, hfd, hfe, e2, sl_0n (s := s) (show n + j < 1073741824 by lia), cd, cc, hv]
   · simp [-Int.natCast_add, f_braced_code, okMe, hfd, hfe, e2, sl_0n (s := s) (show n + j < 1073741824 by lia), cd, cc, hv, Nat.add_assoc]
noncomputable def esc (r : List Nat) : Option (List Nat × Nat) := match r with
 | [] => some ([92], 1)
 | c :: r' => match escTab.lookup c with
   | some e => some ([e], 2)
   | none =>
     if 48 ≤ c ∧ c ≤ 55 then some ([(digGo 8 3 (c :: r') 0).1], 1 + (digGo 8 3 (c :: r') 0).2)
     else if c = 120 ∧ r'.take 1 = [123] then (codeBr 16 r').map fun q => ([q.1], 2 + q.2)
     else if c = 111 ∧ r'.take 1 = [123] then (codeBr 8 r').map fun q => ([q.1], 2 + q.2)
     else if c = 120 then some ([(digGo 16 2 r' 0).1], 2 + (digGo 16 2 r' 0).2)
     else if c = 78 ∧ r'.take 3 = [123, 85, 43] then (codeBr 16 (r'.drop 2)).map fun q => ([q.1], 4 + q.2)
     else if c = 78 ∧ r'.take 1 = [123] then none
     else if c = 99 ∧ r' ≠ [] then some ([(Builtin.bitXor (gr (r'.headD 0)) 64).toNat], 3)
     else some ([c], 2)
theorem has_of {S : List Nat} {p : Nat → Bool} (h1 : ∀ c : Fin 128, S.contains c.1 = p c.1) (h2 : (S.all fun x => decide (x < 128)) = true) (h3 : ∀ c, 128 ≤ c → p c = false) (c : Nat) : S.contains c = p c := by
 by_cases h : c < 128
 · exact h1 ⟨c, h⟩
 · rw [h3 c (Nat.le_of_not_lt h)]
   cases hb : S.contains c with
   | false => rfl
   | true => exact absurd (of_decide_eq_true (List.all_eq_true.mp h2 c (List.contains_iff_mem.mp hb))) h
theorem in_oct (c : Nat) : [48, 49, 50, 51, 52, 53, 54, 55].contains c = decide (48 ≤ c ∧ c ≤ 55) := by
 refine has_of (S := [48, 49, 50, 51, 52, 53, 54, 55]) (p := fun c => decide (48 ≤ c ∧ c ≤ 55)) (by decide +kernel) (by decide) (fun c hc => ?_) c
 exact decide_eq_false (fun h => by lia)
theorem xor_ok {c : Nat} (h : c < 128) : 0 ≤ Builtin.bitXor ((gr c : Nat) : Int) 64 ∧ Builtin.bitXor ((gr c : Nat) : Int) 64 ≤ 1114111 := by
 have : ∀ c : Fin 128, 0 ≤ Builtin.bitXor ((gr c.1 : Nat) : Int) 64 ∧ Builtin.bitXor ((gr c.1 : Nat) : Int) 64 ≤ 1114111 := by decide +kernel
 exact this ⟨c, h⟩
noncomputable def escK (n : Nat) (μ : Mem) (o : Option (List Nat × Nat)) : O V := o.rec (.exc μ) fun q => .ok (.tup [.str q.1, .int ((n + q.2 : Nat))]) μ
theorem x_e {Φ : OK} {l : Loc} {μ : Mem} {a b c : E} {s : List Nat} {x y : V} {i k : Nat} {t : List Nat} (h1 : xE Φ (.loc i) l μ = .ok (.str [k]) μ) {m : Nat} {w : List Nat} (h2 : sliceV (.str s) x y = some (.str t)) (g : xE Φ (.slice a b c) l μ = O.lift (sliceV (.str s) x y) μ) :
   xE Φ (.and (.cons (.cmp .eq (.loc i) (.str [m])) (.cons (.cmp .eq (.slice a b c) (.str w)) .nil))) l μ = .ok (.bool (decide (k = m ∧ t = w))) μ := by
 have e1 : xE Φ (.cmp .eq (.loc i) (.str [m])) l μ = .ok (.bool (decide (k = m))) μ := by
   rw [e_cmp, h1, ob_ok, ← eq_dec]; rfl
 have e2 : xE Φ (.cmp .eq (.slice a b c) (.str w)) l μ = .ok (.bool (decide (t = w))) μ := by
   rw [e_cmp, g, h2, ol_some, ob_ok]
   show O.ok (V.bool (t == w)) μ = _
   rw [show (t == w) = decide (t = w) from eqs_dec t w]
 rw [x_and2 e1 e2, Bool.decide_and]
theorem z_br {Φ : OK} {P : F → O V} {n k : Nat} {s : List Nat} {l : Loc} {μ : Mem} {es : Es} {ss : Ss} {i : Int} {b : Int} {o : Option (Nat × Nat)} (h : xEs Φ es l μ = .ok [.str s, .int i, .int b] μ) (f : Φ 3 [.str s, .int i, .int b] μ = match o with | none => .exc μ | some (v, m) => .ok (.tup [.str [v], .int ((n + k + m : Nat))]) μ) (p1 : ∀ v, P (.ret v μ) = .ok v μ) (p2 : P (.exc l μ) = .exc μ) :
   P (xSs Φ (.cons (.ret (.call 3 es)) ss) l μ) = escK n μ (o.map fun q => ([q.1], k + q.2)) := by
 cases o with
 | none => exact z_retx (by rw [e_call, h]; exact f) p2
 | some q => exact z_ret (by rw [e_call, h]; exact f) ((p1 _).trans (by rw [Nat.add_assoc]; rfl))
theorem c_esc {s r : List Nat} {n D : Nat} {μ : Mem} (hs : Okt s) (h : At s n (92 :: r)) (hD : 3 ≤ D) :
   evCall fnTab D 4 [.str s, .int (n : Nat)] μ = escK n μ (esc r) := by
 obtain ⟨d, rfl, hd⟩ := succ_of hD
 rw [evCall_succ rfl]
 refine run_fn rfl ?_
 have h1 := h.succ
 have f1 := h.slice hs.1 1 2 (by decide) (by decide)
 have cd := fun b n r h k hb => c_digv (s := s) (n := n) (r := r) (most := k) (base := b) (μ := μ) (D := d) hs h hb (by lia)
 have cb := fun n g l b h q hb => c_codeBr (n := n) (g := g) (l := l) (base := b) (μ := μ) (D := d) hs h (show g ≠ 125 from q) hb hd
 have cg := fun c hc => c_great (c := c) (μ := μ) (D := d) hc (by lia)
 generalize evCall fnTab d = Φ at *
 refine z_as (P := finK) (lift_ok f1) ?_
 cases r with
 | nil => exact z_t rfl (z_ret rfl rfl)
 | cons c r' =>
   have h2 : At s (n + 2) r' := h1.succ
   have f2 := h2.slice hs.1 0 1 (by decide) (by decide)
   have f3 := h2.slice hs.1 0 3 (by decide) (by decide)
   refine z_f rfl ?_
   unfold esc
   dsimp only
   cases he : escTab.lookup c with
   | some e => 
     refine z_t (lift_ok (congrArg (fun o : Option Nat => some (V.bool o.isSome)) he)) ?_
     refine z_ret (x_tup2 (lift_ok (congrArg (fun o : Option Nat => o.map fun c => V.str [c]) he)) rfl) ?_
     rfl
   | none =>
     refine z_f (lift_ok (congrArg (fun o : Option Nat => some (V.bool o.isSome)) he)) ?_
     dsimp only
     refine z_ite (k := escK n μ) rfl (in_oct c) (fun _ => ?_) fun _ => ?_
     · have hb := digGo_bound 8 (by decide) 3 (c :: r') 0
       have x := cd 8 _ _ h1 3 (by decide)
       generalize digGo 8 3 (c :: r') 0 = q at x hb ⊢
       refine z_asT x rfl (z_ret (x_tup2 (lift_ok (bi_chr (n := q.1) (by lia))) rfl) ?_)
       rw [Nat.add_assoc]; rfl
     refine z_ite (k := escK n μ) (x_e rfl f2 rfl) rfl (fun k1 => ?_) fun _ => ?_
     · obtain ⟨r2, rfl⟩ := take_n k1.2
       exact z_br (k := 2) rfl (cb _ _ _ 16 h2 (by decide) (by decide)) (fun _ => rfl) rfl
     refine z_ite (k := escK n μ) (x_e rfl f2 rfl) rfl (fun k1 => ?_) fun _ => ?_
     · obtain ⟨r2, rfl⟩ := take_n k1.2
       exact z_br (k := 2) rfl (cb _ _ _ 8 h2 (by decide) (by decide)) (fun _ => rfl) rfl
     refine z_ite (k := escK n μ) rfl (eq_dec c 120) (fun k1 => ?_) fun _ => ?_
     · have hb := digGo_bound 16 (by decide) 2 r' 0
       have x := cd 16 _ _ h2 2 (by decide)
       generalize digGo 16 2 r' 0 = q at x hb ⊢
       refine z_asT x rfl (z_ret (x_tup2 (lift_ok (bi_chr (n := q.1) (by lia))) rfl) ?_)
       rw [Nat.add_assoc]; rfl
     refine z_ite (k := escK n μ) (x_e rfl f3 rfl) rfl (fun k1 => ?_) fun _ => ?_
     · obtain ⟨r2, rfl⟩ := take_n k1.2
       exact z_br (k := 4) rfl (cb _ _ _ 16 h2.succ.succ (by decide) (by decide)) (fun _ => rfl) rfl
     refine z_ite (k := escK n μ) (x_e rfl f2 rfl) rfl (fun k1 => ?_) fun _ => ?_
     · rfl
     refine z_ite (k := escK n μ) (x_and2 (p := [c] == [99]) rfl (x_ne (lift_ok f2))) (show ([c] == [99] && !(r'.take 1 == [])) = decide (c = 99 ∧ r' ≠ []) by rw [eq_dec, Bool.decide_and]; cases r' <;> rfl) (fun k1 => ?_) fun _ => ?_
     · cases r' with
       | nil => exact absurd rfl k1.2
       | cons e r2 =>
         have hc : e < 128 := hs.2 e (List.mem_of_getElem? h2.head)
         have x := xor_ok (c := e) hc
         exact z_ret (x_tup2 (x_bi1 (x_bin (x_bi1 (x_ca1 (x_idx rfl rfl h2.ix) (cg e (Nat.le_trans (Nat.le_of_lt hc) (by decide)))) rfl) rfl rfl) (bi_chr_i x.1 x.2)) rfl) rfl
     · exact z_ret rfl rfl
theorem c_great' {c D : Nat} {μ : Mem} (hD : 1 ≤ D) : evCall fnTab D 5 [.str [c]] μ = .ok (.str [gr c]) μ := by
 obtain ⟨d, rfl, _⟩ := succ_of hD
 rw [evCall_succ rfl]
 refine run_fn rfl ?_
 simp [f_great_letter]
 unfold gr
 split
 · rename_i h
   have e : ((c : Int) - 32).toNat = c - 32 := by lia
   have h2 : (c : Int) - 32 ≤ 90 := by lia
   rw [bi_chr_i (by lia) (Int.le_trans h2 (by decide)), e]
   simp
 · rfl
theorem c_small' {c D : Nat} {μ : Mem} (hD : 1 ≤ D) : evCall fnTab D 6 [.str [c]] μ = .ok (.str [sm c]) μ := by
 obtain ⟨d, rfl, _⟩ := succ_of hD
 rw [evCall_succ rfl]
 refine run_fn rfl ?_
 simp [f_small_letter]
 unfold sm
 split
 · rename_i h
   have h2 : (c : Int) + 32 ≤ 122 := by lia
   have e : ((c : Int) + 32).toNat = c + 32 := by lia
   rw [bi_chr_i (by lia) (Int.le_trans h2 (by decide)), e]
   simp
 · rfl
noncomputable def caseC (m c : Nat) : List Nat := if m = 85 then [gr c] else if m = 81 then (if (!word c && decide (c < 128)) = true then [92, c] else [c]) else [sm c]
noncomputable def caseAll (m : Nat) (t : List Nat) : List Nat := t.flatMap (caseC m)
noncomputable def cased (m : Nat) (t : List Nat) : List Nat :=
 if m = 117 then caseAll 85 (t.take 1) ++ t.drop 1 else if m = 108 then caseAll 76 (t.take 1) ++ t.drop 1 else caseAll m t
theorem caseC_len (m c : Nat) : (caseC m c).length ≤ 2 := by
 unfold caseC
 (repeat' split) <;> simp
theorem caseAll_len (m : Nat) : ∀ t : List Nat, (caseAll m t).length ≤ 2 * t.length
 | [] => by simp [caseAll]
 | c :: t => by
   have h1 := caseC_len m c
   have h2 := caseAll_len m t
   simp only [caseAll, List.flatMap_cons, List.length_append, List.length_cons] at h2 ⊢
   lia
theorem case_body {m c d : Nat} {t : V} {out : List Nat} (hd : 1 ≤ d) (hl : out.length + 2 ≤ 1048576) (μ : Mem) :
   xSs (evCall fnTab d) f_cased_text_b1 [some (.str [m]), some t, some (.str out), some (.str [c])] μ = .next [some (.str [m]), some t, some (.str (out ++ caseC m c)), some (.str [c])] μ := by
 have hL : LIM = 1048576 := rfl
 have a1 : ∀ x, augV .add (.str out) (.str [x]) = some (.str (out ++ [x])) := fun x => aug_add_ss (by simp; lia)
 have a2 : ∀ x y, augV .add (.str (out ++ [x])) (.str [y]) = some (.str (out ++ [x, y])) := fun x y => by
   rw [aug_add_ss (by simp; lia)]; simp
 have hlt : ((c : Int) < 128) = (c < 128) := propext (by lia)
 unfold caseC
 by_cases h1 : m = 85
 · simp [f_cased_text_b1, h1, c_great' hd, a1]
 · by_cases h2 : m = 81
   · cases hw : word c with
     | true => simp [f_cased_text_b1, h2, c_word hd, hw, a1]
     | false =>
       by_cases h3 : c < 128
       · simp [f_cased_text_b1, h2, c_word hd, hw, a1, a2, hlt, h3]
       · simp [f_cased_text_b1, h2, c_word hd, hw, a1, hlt, h3]
   · simp [f_cased_text_b1, h1, h2, c_small' hd, a1]
theorem case_loop {m d : Nat} {t : V} (hd : 1 ≤ d) {μ : Mem} : ∀ (r : List Nat) (out : List Nat) (x : Option V), out.length + 2 * r.length ≤ 1048576 →
   ∃ y, forS (evCall fnTab d) f_cased_text_b1 3 (fun _ => True) (r.map fun c => V.str [c]) [some (.str [m]), some t, some (.str out), x] μ = .next [some (.str [m]), some t, some (.str (out ++ caseAll m r)), y] μ
 | [], out, x, _ => ⟨x, by simp [caseAll]⟩
 | c :: r, out, x, h => by
   simp only [List.length_cons] at h
   have h1 := caseC_len m c
   obtain ⟨y, hy⟩ := case_loop (m := m) (t := t) hd (μ := μ) r (out ++ caseC m c) (some (.str [c])) (by simp; lia)
   refine ⟨y, ?_⟩
   rw [List.map_cons, forS_cons]
   show bodyK _ (xSs _ _ [some (.str [m]), some t, some (.str out), some (.str [c])] μ) = _
   rw [case_body hd (by lia), bodyK_next, only_T, hy]
   simp [caseAll]
theorem case_plain {m d : Nat} {t : List Nat} {μ : Mem} (hd : 1 ≤ d) (h1 : m ≠ 117) (h2 : m ≠ 108) (hl : t.length ≤ 500000) : evCall fnTab (d + 1) 8 [.str [m], .str t] μ = .ok (.str (caseAll m t)) μ := by
 rw [evCall_succ rfl]
 refine run_fn rfl ?_
 obtain ⟨y, hy⟩ := case_loop (m := m) (t := .str t) hd (μ := μ) t [] none (by simp; lia)
 have e : stays (.str t) (t.map fun c => V.str [c]) = fun _ => True := by funext μ; simp [stays]
 simp [f_cased_text, h1, h2, itemsOf, e, hy]
theorem c_cased {m D : Nat} {t : List Nat} {μ : Mem} (hl : t.length ≤ 500000) (hD : 3 ≤ D) : evCall fnTab D 8 [.str [m], .str t] μ = .ok (.str (cased m t)) μ := by
 obtain ⟨d, rfl, hd⟩ := succ_of hD
 have hL : LIM = 1048576 := rfl
 unfold cased
 by_cases h1 : m = 117
 · rw [if_pos h1, evCall_succ rfl]
   refine run_fn rfl ?_
   obtain ⟨d', rfl, hd'⟩ := succ_of hd
   have cp := fun μ => case_plain (m := 85) (t := t.take 1) (μ := μ) hd' (by decide) (by decide) (by simp; lia)
   have hca := caseAll_len 85 (t.take 1)
   have h10 := sl_10 (s := t)
   have h01 := sl_01 (s := t)
   have ha : binV .add (.str (caseAll 85 (t.take 1))) (.str (t.drop 1)) = some (.str (caseAll 85 (t.take 1) ++ t.drop 1)) := bin_add_ss (by simp at hca ⊢; lia)
   generalize t.drop 1 = t1 at h10 ha ⊢
   generalize t.take 1 = t0 at cp ha h01 ⊢
   simp [f_cased_text, h1, h01, h10, cp, ha]
 · rw [if_neg h1]
   by_cases h2 : m = 108
   · rw [if_pos h2, evCall_succ rfl]
     refine run_fn rfl ?_
     obtain ⟨d', rfl, hd'⟩ := succ_of hd
     have cp := fun μ => case_plain (m := 76) (t := t.take 1) (μ := μ) hd' (by decide) (by decide) (by simp; lia)
     have hca := caseAll_len 76 (t.take 1)
     have h10 := sl_10 (s := t)
     have h01 := sl_01 (s := t)
     have ha : binV .add (.str (caseAll 76 (t.take 1))) (.str (t.drop 1)) = some (.str (caseAll 76 (t.take 1) ++ t.drop 1)) := bin_add_ss (by simp at hca ⊢; lia)
     generalize t.drop 1 = t1 at h10 ha ⊢
     generalize t.take 1 = t0 at cp ha h01 ⊢
     simp [f_cased_text, h1, h2, h01, h10, cp, ha]
   · rw [if_neg h2]
     exact case_plain (by lia) h1 h2 hl
inductive Part where
 | text (t : List Nat)
 | expr (t : List Nat)
 | case (m : List Nat) (q : List Part)
noncomputable abbrev tx : List Nat := [116, 101, 120, 116]
noncomputable abbrev ex : List Nat := [101, 120, 112, 114]
noncomputable abbrev cs : List Nat := [99, 97, 115, 101]
mutual
inductive PV (L : List Nat) (μ : Mem) : V → Part → Prop
 | text (t : List Nat) : PV L μ (.tup [.str tx, .str t]) (.text t)
 | expr (t : List Nat) : PV L μ (.tup [.str ex, .str t]) (.expr t)
 | case {m : List Nat} {r : Nat} {vs : List V} {q : List Part} : r ∉ L → μ[r]? = some vs → PVs L μ vs.reverse q → PV L μ (.tup [.str cs, .str m, .ref r]) (.case m q)
inductive PVs (L : List Nat) (μ : Mem) : List V → List Part → Prop
 | nil : PVs L μ [] []
 | cons {v : V} {vs : List V} {p : Part} {q : List Part} : PV L μ v p → PVs L μ vs q → PVs L μ (v :: vs) (p :: q)
end
mutual
theorem PV.step {L L' : List Nat} {μ μ' : Mem} (h : ∀ r vs, r ∉ L → μ[r]? = some vs → r ∉ L' ∧ μ'[r]? = some vs) : ∀ {v : V} {p : Part}, PV L μ v p → PV L' μ' v p
 | _, _, .text t => .text t
 | _, _, .expr t => .expr t
 | _, _, .case h1 h2 h3 => .case (h _ _ h1 h2).1 (h _ _ h1 h2).2 (PVs.step h h3)
theorem PVs.step {L L' : List Nat} {μ μ' : Mem} (h : ∀ r vs, r ∉ L → μ[r]? = some vs → r ∉ L' ∧ μ'[r]? = some vs) : ∀ {vs : List V} {q : List Part}, PVs L μ vs q → PVs L' μ' vs q
 | _, _, .nil => .nil
 | _, _, .cons h1 h2 => .cons (PV.step h h1) (PVs.step h h2)
end
theorem PVs.len {L : List Nat} {μ : Mem} : ∀ {vs : List V} {q : List Part}, PVs L μ vs q → vs.length = q.length
 | _, _, .nil => rfl
 | _, _, .cons _ h => by simp [PVs.len h]
noncomputable abbrev Ent := List Nat × List Part
inductive Cells (L : List Nat) (μ : Mem) : List Nat → List Ent → Prop
 | nil : Cells L μ [] []
 | cons {p : Nat} {ps : List Nat} {m : List Nat} {vs : List V} {q : List Part} {T : List Ent} : μ[p]? = some vs → PVs L μ vs.reverse q → Cells L μ ps T → Cells L μ (p :: ps) ((m, q) :: T)
theorem Cells.step {L L' : List Nat} {μ μ' : Mem} (h : ∀ r vs, r ∉ L → μ[r]? = some vs → r ∉ L' ∧ μ'[r]? = some vs) : ∀ {ps : List Nat} {T : List Ent}, (∀ p ∈ ps, ∀ vs, μ[p]? = some vs → μ'[p]? = some vs) → Cells L μ ps T → Cells L' μ' ps T
 | _, _, _, .nil => .nil
 | _, _, k, .cons h1 h2 h3 => .cons (k _ (.head _) _ h1) (PVs.step h h2) (Cells.step h (fun p hp => k p (.tail _ hp)) h3)
theorem Cells.len {L : List Nat} {μ : Mem} : ∀ {ps : List Nat} {T : List Ent}, Cells L μ ps T → ps.length = T.length
 | _, _, .nil => rfl
 | _, _, .cons _ _ h => by simp [Cells.len h]
noncomputable def entsOf (ps : List Nat) (T : List Ent) : List V := List.zipWith (fun p (e : Ent) => V.il [.str e.1, .ref p]) ps T
structure SR (n0 : Nat) (μ : Mem) (s0 : Nat) (ps : List Nat) (T : List Ent) : Prop where
 low : ∀ p ∈ s0 :: ps, n0 ≤ p
 stk : μ[s0]? = some (entsOf ps T).reverse
 nodup : (s0 :: ps).Nodup
 cells : Cells (s0 :: ps) μ ps T
noncomputable def Keep (n0 : Nat) (μ μ' : Mem) : Prop := (∀ i, i < n0 → μ'[i]? = μ[i]?) ∧ μ.length ≤ μ'.length
theorem Keep.refl (n0 : Nat) (μ : Mem) : Keep n0 μ μ := ⟨fun _ _ => rfl, Nat.le_refl _⟩
theorem Keep.trans {n0 : Nat} {a b c : Mem} (x : Keep n0 a b) (y : Keep n0 b c) : Keep n0 a c := ⟨fun i h => (y.1 i h).trans (x.1 i h), Nat.le_trans x.2 y.2⟩
theorem Keep.set {n0 p : Nat} {μ : Mem} {ws : List V} (h : n0 ≤ p) : Keep n0 μ (μ.set p ws) := ⟨fun i hi => by
 have : p ≠ i := by lia
 rw [List.getElem?_set_ne this], by simp⟩
theorem SR.len {n0 : Nat} {μ : Mem} {s0 : Nat} {ps : List Nat} {T : List Ent} (h : SR n0 μ s0 ps T) : ps.length = T.length := h.cells.len
noncomputable def addTo : List Part → Part → Option (List Part)
 | .text u :: q, .text t => if u.length + t.length ≤ 100000 then some (.text (u ++ t) :: q) else none
 | q, .text t => if t.length ≤ 100000 ∧ q.length < 100000 then some (.text t :: q) else none
 | q, p => if q.length < 100000 then some (p :: q) else none
theorem set_live {μ : Mem} {L : List Nat} {p : Nat} {ws : List V} (hp : p ∈ L) : ∀ r vs, r ∉ L → μ[r]? = some vs → r ∉ L ∧ (μ.set p ws)[r]? = some vs := fun r vs hr h => by
 refine ⟨hr, ?_⟩
 have : p ≠ r := fun z => hr (z ▸ hp)
 rw [List.getElem?_set_ne this]
 exact h
theorem SR.top {n0 : Nat} {μ : Mem} {s0 p : Nat} {ps : List Nat} {m : List Nat} {q q' : List Part} {T : List Ent} {ws : List V} (h : SR n0 μ s0 (p :: ps) ((m, q) :: T)) (hw : PVs (s0 :: p :: ps) μ ws.reverse q') : SR n0 (μ.set p ws) s0 (p :: ps) ((m, q') :: T) := by
 have hnd := h.nodup
 simp only [List.nodup_cons, List.mem_cons, not_or] at hnd
 have hpl : p ∈ s0 :: p :: ps := by simp
 have hst := set_live (μ := μ) (ws := ws) hpl
 cases h.cells with
 | cons h1 h2 h3 =>
   have hlt : p < μ.length := by
     have := List.getElem?_eq_some_iff.mp h1
     exact this.1
   refine ⟨h.low, ?_, h.nodup, .cons ?_ (hw.step hst) (h3.step hst fun p' hp' vs hv => ?_)⟩
   · rw [List.getElem?_set_ne (fun z => hnd.1.1 z.symm)]
     exact h.stk
   · rw [List.getElem?_set_self hlt]
   · have : p ≠ p' := fun z => hnd.2.1 (z ▸ hp')
     rw [List.getElem?_set_ne this]
     exact hv
theorem SR.pop {n0 : Nat} {μ : Mem} {s0 p : Nat} {ps : List Nat} {m : List Nat} {q : List Part} {T : List Ent} (h : SR n0 μ s0 (p :: ps) ((m, q) :: T)) :
   SR n0 (μ.set s0 (entsOf ps T).reverse) s0 ps T ∧ ∃ vs, μ[p]? = some vs ∧ (μ.set s0 (entsOf ps T).reverse)[p]? = some vs ∧ p ∉ s0 :: ps ∧ PVs (s0 :: ps) (μ.set s0 (entsOf ps T).reverse) vs.reverse q := by
 have hnd := h.nodup
 simp only [List.nodup_cons, List.mem_cons, not_or] at hnd
 have hlt : s0 < μ.length := (List.getElem?_eq_some_iff.mp h.stk).1
 have hst : ∀ r vs, r ∉ s0 :: p :: ps → μ[r]? = some vs → r ∉ s0 :: ps ∧ (μ.set s0 (entsOf ps T).reverse)[r]? = some vs := fun r vs hr hv => by
   simp only [List.mem_cons, not_or] at hr ⊢
   have : s0 ≠ r := fun z => hr.1 z.symm
   refine ⟨⟨hr.1, hr.2.2⟩, ?_⟩
   rw [List.getElem?_set_ne this]; exact hv
 have hp0 : s0 ≠ p := hnd.1.1
 cases h.cells with
 | cons h1 h2 h3 =>
   refine ⟨⟨fun r hr => h.low r ?_, List.getElem?_set_self hlt, ?_, h3.step hst fun p' hp' vs hv => ?_⟩, _, h1, ?_, ?_, h2.step hst⟩
   · rcases List.mem_cons.mp hr with rfl | hr
     · simp
     · simp [hr]
   · simp only [List.nodup_cons]
     exact ⟨hnd.1.2, hnd.2.2⟩
   · have : s0 ≠ p' := fun z => hnd.1.2 (z ▸ hp')
     rw [List.getElem?_set_ne this]; exact hv
   · rw [List.getElem?_set_ne hp0]; exact h1
   · simp only [List.mem_cons, not_or]
     exact ⟨fun z => hp0 z.symm, hnd.2.1⟩
theorem pyAt_n {l : List V} {n : Nat} : pyAt l ((n : Nat) : Int) = l[n]? := if_pos (Int.natCast_nonneg n)
theorem ix_r {μ : Mem} {r n : Nat} {vs : List V} (h : μ[r]? = some vs) : idxV μ (.ref r) (.int (n : Nat)) = vs[n]? := by
 show (μ[r]?).bind (fun vs => pyAt vs ((n : Nat) : Int)) = _
 rw [h]; exact pyAt_n
theorem ix_l {μ : Mem} {n : Nat} {vs : List V} : idxV μ (.il vs) (.int (n : Nat)) = vs[n]? := pyAt_n
theorem ix_t {μ : Mem} {n : Nat} {vs : List V} : idxV μ (.tup vs) (.int (n : Nat)) = vs[n]? := by
 show (if (0 : Int) ≤ (n : Nat) then vs[((n : Nat) : Int).toNat]? else Option.none) = _
 rw [if_pos (Int.natCast_nonneg n)]; rfl
theorem ix_r0 {μ : Mem} {r : Nat} {vs : List V} (h : μ[r]? = some vs) : idxV μ (.ref r) (.int 0) = vs[0]? := ix_r (n := 0) h
theorem ix_l0 {μ : Mem} {vs : List V} : idxV μ (.il vs) (.int 0) = vs[0]? := ix_l (n := 0)
theorem ix_l1 {μ : Mem} {vs : List V} : idxV μ (.il vs) (.int 1) = vs[1]? := ix_l (n := 1)
theorem ix_t0 {μ : Mem} {vs : List V} : idxV μ (.tup vs) (.int 0) = vs[0]? := ix_t (n := 0)
theorem ix_t1 {μ : Mem} {vs : List V} : idxV μ (.tup vs) (.int 1) = vs[1]? := ix_t (n := 1)
theorem len_m1 (W : List V) (x : V) : ((W ++ [x]).length : Int) - 1 = ((W.length : Nat) : Int) := by
 rw [List.length_append]; show ((W.length + 1 : Nat) : Int) - 1 = _; lia
theorem x_last {Φ : OK} {l : Loc} {μ : Mem} {i r : Nat} {W : List V} {x : V} (h : xE Φ (.loc i) l μ = .ok (.ref r) μ) (hm : μ[r]? = some (W ++ [x])) : xE Φ (.idx (.loc i) (.bin .sub (.bi .len (.cons (.loc i) .nil)) (.int 1))) l μ = .ok x μ :=
 x_idx h (x_bin (x_bi1 h (bi_len_r hm)) rfl rfl) (by rw [len_m1, ix_r hm, List.getElem?_concat_length])
theorem x_pos {Φ : OK} {l : Loc} {μ : Mem} {i r : Nat} {vs : List V} (h : xE Φ (.loc i) l μ = .ok (.ref r) μ) (hm : μ[r]? = some vs) : xE Φ (.cmp .gt (.bi .len (.cons (.loc i) .nil)) (.int 0)) l μ = .ok (.bool (decide (0 < vs.length))) μ := by
 rw [e_cmp, x_bi1 h (bi_len_r hm)]
 exact congrArg (fun b => O.ok (V.bool b) μ) (decide_eq_decide.mpr (by lia : (0 : Int) < ((vs.length : Nat) : Int) ↔ 0 < vs.length))
theorem x_posT {Φ : OK} {l : Loc} {μ : Mem} {i r : Nat} {W : List V} {x : V} (h : xE Φ (.loc i) l μ = .ok (.ref r) μ) (hm : μ[r]? = some (W ++ [x])) : xE Φ (.cmp .gt (.bi .len (.cons (.loc i) .nil)) (.int 0)) l μ = .ok (.bool true) μ := by
 rw [x_pos h hm, decide_eq_true (by rw [List.length_append]; exact Nat.succ_pos _)]
theorem x_len {Φ : OK} {l : Loc} {μ : Mem} {i r : Nat} {vs : List V} (h : xE Φ (.loc i) l μ = .ok (.ref r) μ) (hm : μ[r]? = some vs) : xE Φ (.bi .len (.cons (.loc i) .nil)) l μ = .ok (.int ((vs.length : Nat))) μ := x_bi1 h (bi_len_r hm)
noncomputable def isText : Part → Bool
 | .text _ => true
 | _ => false
noncomputable def short (m : List Nat) : Bool := m == [117] || m == [108]
noncomputable def addPart : List Ent → Part → Option (List Ent)
 | [], _ => none
 | (m, q) :: T, p => match addTo q p with
   | none => none
   | some q' => if (isText p && short m) = true then (match q' with
       | [] => some T
       | [.text t] => if t.length ≤ 100000 then addPart T (.text (cased (m.headD 0) t)) else none
       | q' => addPart T (.case m q')) else some ((m, q') :: T)
noncomputable def closeTop : List Ent → Option (List Ent)
 | [] => none
 | (m, q) :: T => match q with
   | [] => some T
   | [.text t] => if t.length ≤ 100000 then addPart T (.text (cased (m.headD 0) t)) else none
   | q => addPart T (.case m q)
theorem addPart_eq (m : List Nat) (q : List Part) (T : List Ent) (p : Part) : addPart ((m, q) :: T) p = match addTo q p with
   | none => none
   | some q' => if (isText p && short m) = true then closeTop ((m, q') :: T) else some ((m, q') :: T) := by
 rw [addPart]
 cases addTo q p with
 | none => rfl
 | some q' => rfl
noncomputable def Marks : List Ent → Prop
 | [] => True
 | [e] => e.1 = []
 | e :: T => (∃ c, e.1 = [c]) ∧ Marks T
noncomputable def Pst (n0 s0 : Nat) (μ : Mem) (T' : List Ent) (v : V) (x : O V) : Prop := ∃ ps' μ', x = .ok v μ' ∧ SR n0 μ' s0 ps' T' ∧ Keep n0 μ μ' ∧ Marks T'
theorem Pst.map {n0 s0 : Nat} {μ : Mem} {T' : List Ent} {v w : V} {x y : O V} (h : Pst n0 s0 μ T' v x) (g : ∀ μ1, x = .ok v μ1 → y = .ok w μ1) : Pst n0 s0 μ T' w y := by
 obtain ⟨ps, μ1, a, b⟩ := h
 exact ⟨ps, μ1, g μ1 a, b⟩
theorem Pst.seq {n0 s0 : Nat} {μ : Mem} {T1 T2 : List Ent} {v w : V} {x y : O V} (h : Pst n0 s0 μ T1 v x) (g : ∀ ps μ1, x = .ok v μ1 → SR n0 μ1 s0 ps T1 → Marks T1 → Pst n0 s0 μ1 T2 w y) : Pst n0 s0 μ T2 w y := by
 obtain ⟨ps, μ1, a, b, c, e⟩ := h
 obtain ⟨ps2, μ2, a2, b2, c2, e2⟩ := g ps μ1 a b e
 exact ⟨ps2, μ2, a2, b2, c.trans c2, e2⟩
theorem Pst.keep {n0 s0 : Nat} {μ μ1 : Mem} {T' : List Ent} {v : V} {x : O V} (k : Keep n0 μ μ1) (h : Pst n0 s0 μ1 T' v x) : Pst n0 s0 μ T' v x := by
 obtain ⟨ps, μ2, a, b, c, e⟩ := h
 exact ⟨ps, μ2, a, b, k.trans c, e⟩
noncomputable def AddOk (k : Nat) : Prop := ∀ (T : List Ent), T.length ≤ k → ∀ (n0 s0 : Nat) (ps : List Nat) (μ : Mem) (v : V) (p : Part) (T' : List Ent) (D : Nat), SR n0 μ s0 ps T → Marks T → PV (s0 :: ps) μ v p → addPart T p = some T' → 2 * k + 4 ≤ D →
   Pst n0 s0 μ T' .none (evCall fnTab D 21 [.ref s0, v] μ)
theorem PVs.nil_of {L : List Nat} {μ : Mem} {vs : List V} (h : PVs L μ vs.reverse []) : vs = [] := by
 have := h.len
 simpa using this
theorem PVs.last {L : List Nat} {μ : Mem} {vs : List V} {p : Part} {q : List Part} (h : PVs L μ vs.reverse (p :: q)) : ∃ W v, vs = W ++ [v] ∧ PV L μ v p ∧ PVs L μ W.reverse q := by
 generalize hr : vs.reverse = rv at h
 cases h with
 | @cons v w _ _ d1 d2 => exact ⟨w.reverse, v, by rw [← List.reverse_reverse vs, hr, List.reverse_cons], d1, by rw [List.reverse_reverse]; exact d2⟩
theorem part_head {L : List Nat} {μ : Mem} {v : V} {p : Part} (h : PV L μ v p) : ∃ k r, v = .tup (.str k :: r) ∧ (k = tx ↔ isText p = true) := by
 cases h with
 | text t => exact ⟨_, _, rfl, by simp [isText]⟩
 | expr t => exact ⟨_, _, rfl, by simp [isText]⟩
 | case _ _ _ => exact ⟨_, _, rfl, by simp [isText]⟩
theorem pop_r {μ : Mem} {p : Nat} {W : List V} {v : V} (h : μ[p]? = some (W ++ [v])) : methV μ .pop (.ref p) [] = .ok v (μ.set p W) := by
 show popV μ (.ref p) = _
 unfold popV
 dsimp only
 rw [h]
 dsimp only
 rw [List.getLast?_concat, List.dropLast_concat]
theorem closeTop_inv {m : List Nat} {q : List Part} {T T' : List Ent} (h : closeTop ((m, q) :: T) = some T') : (q = [] ∧ T = T') ∨ (∃ t, q = [.text t] ∧ t.length ≤ 100000 ∧ addPart T (.text (cased (m.headD 0) t)) = some T') ∨ q ≠ [] ∧ (∀ t, q ≠ [.text t]) ∧ addPart T (.case m q) = some T' := by
 cases q with
 | nil => exact .inl ⟨rfl, Option.some.inj h⟩
 | cons a q =>
   refine .inr ?_
   cases q with
   | nil =>
     cases a with
     | text t =>
       have h : (if t.length ≤ 100000 then addPart T (.text (cased (m.headD 0) t)) else none) = some T' := h
       exact .inl ⟨t, rfl, by split at h; exact ⟨‹_›, h⟩; cases h⟩
     | expr t => exact .inr ⟨fun z => (by cases z), fun t z => (by cases z), h⟩
     | case c t => exact .inr ⟨fun z => (by cases z), fun t z => (by cases z), h⟩
   | cons b q => exact .inr ⟨fun z => (by cases z), fun t z => (by cases z), by cases a <;> exact h⟩
section
variable {Φ : OK} {s0 p c : Nat} {v : V} {vs : List V} {μ μ₁ μ' : Mem}
theorem cc_text {t t' : List Nat} (h : methV μ .pop (.ref s0) [] = .ok (.il [.str [c], .ref p]) μ₁) (g : μ₁[p]? = some [.tup [.str tx, .str t]]) (h8 : Φ 8 [.str [c], .str t] μ₁ = .ok (.str t') μ₁) (h21 : Φ 21 [.ref s0, .tup [.str tx, .str t']] μ₁ = .ok .none μ') :
   finK (xSs Φ f_close_case.body [some (.ref s0), none, none] μ) = .ok .none μ' :=
 z_asL (P := finK) (x_me0 rfl rfl h) rfl (z_t (x_and2 (p := true) (q := true) (x_eqi (x_len rfl g)) (x_eq (t := tx) (x_idx (x_idx rfl rfl (ix_r0 g)) rfl rfl))) (z_ex (x_ca2 rfl (x_tup2 rfl (x_ca2 rfl (x_idx (x_idx rfl rfl (ix_r0 g)) rfl rfl) h8)) h21) (z_nil rfl)))
theorem cc_case (h : methV μ .pop (.ref s0) [] = .ok (.il [.str [c], .ref p]) μ₁) (g : μ₁[p]? = some vs) (hp : 0 < vs.length) (h1 : ∀ v, vs = [v] → ∃ t r, v = .tup (.str t :: r) ∧ t ≠ tx) (h21 : Φ 21 [.ref s0, .tup [.str cs, .str [c], .ref p]] μ₁ = .ok .none μ') :
   finK (xSs Φ f_close_case.body [some (.ref s0), none, none] μ) = .ok .none μ' := by
 refine z_asL (P := finK) (x_me0 rfl rfl h) rfl (z_e ?_ (z_t (by rw [← decide_eq_true hp]; exact x_pos rfl g) (z_ex (x_ca2 rfl rfl h21) (z_nil rfl))))
 cases vs with
 | nil => cases hp
 | cons v r =>
   cases r with
   | nil =>
     obtain ⟨t, r, rfl, ht⟩ := h1 v rfl
     refine x_and2 (p := true) (x_eqi (x_len rfl g)) ?_
     rw [show false = (t == tx) from (by rw [eqs_dec]; exact (decide_eq_false ht).symm)]
     exact x_eq (x_idx (x_idx rfl rfl (ix_r0 g)) rfl rfl)
   | cons u r => exact x_andF (x_eqi (x_len rfl g))
end
theorem PVs.one_text {L : List Nat} {μ : Mem} {vs : List V} {t : List Nat} (h : PVs L μ vs.reverse [.text t]) : vs = [.tup [.str tx, .str t]] := by
 obtain ⟨W, v, e, d1, d2⟩ := h.last
 rw [e, d2.nil_of]
 cases d1
 rfl
theorem PVs.one_not {L : List Nat} {μ : Mem} {v : V} {q : List Part} (h : PVs L μ [v].reverse q) (hn : ∀ t, q ≠ [.text t]) : ∃ t r, v = .tup (.str t :: r) ∧ t ≠ tx := by
 cases h with
 | cons d1 d2 =>
   cases d2
   cases d1 with
   | text u => exact absurd rfl (hn u)
   | expr u => exact ⟨_, _, rfl, by decide⟩
   | case => exact ⟨_, _, rfl, by decide⟩
theorem close_core {k d : Nat} (hA : AddOk k) {T T' : List Ent} {c n0 s0 p : Nat} {ps : List Nat} {q : List Part} {μ μ₁ : Mem} {vs : List V} (hT : T.length ≤ k) (hd : 2 * k + 4 ≤ d) (hp : methV μ .pop (.ref s0) [] = .ok (.il [.str [c], .ref p]) μ₁) (h : SR n0 μ₁ s0 ps T) (g2 : μ₁[p]? = some vs) (g3 : p ∉ s0 :: ps) (g4 : PVs (s0 :: ps) μ₁ vs.reverse q) (hm : Marks T)
   (hc : closeTop (([c], q) :: T) = some T') (hk : 0 ≤ μ₁.length → Keep n0 μ₁ μ₁) : Pst n0 s0 μ₁ T' .none (evCall fnTab (d + 1) 22 [.ref s0] μ) := by
 have hr := fun r (e : finK (xSs (evCall fnTab d) f_close_case.body [some (.ref s0), none, none] μ) = r) => (evCall_succ (f := 22) rfl).trans (run_fn (fn := f_close_case) (args := [.ref s0]) rfl e)
 rcases closeTop_inv hc with ⟨e, e'⟩ | ⟨t, e, ht, hc⟩ | ⟨hn1, hn2, hc⟩
 · rw [e] at g4
   rw [g4.nil_of] at g2
   exact ⟨ps, μ₁, hr _ (z_asL (P := finK) (x_me0 rfl rfl hp) rfl (z_e (x_andF (x_eqi (x_len rfl g2))) (z_f (x_pos rfl g2) (z_nil rfl)))), e' ▸ h, hk (Nat.zero_le _), e' ▸ hm⟩
 · rw [e] at g4
   rw [g4.one_text] at g2
   exact (hA T hT n0 s0 ps μ₁ _ _ T' d h hm (.text (cased c t)) hc hd).map fun μ' e => hr _ (cc_text hp g2 (c_cased (by lia) (by lia)) e)
 · have hq : vs.length = q.length := by rw [← g4.len, List.length_reverse]
   exact (hA T hT n0 s0 ps μ₁ (.tup [.str cs, .str [c], .ref p]) _ T' d h hm (.case g3 g2 g4) hc hd).map fun μ' e => hr _ (cc_case hp g2 (by rw [hq]; exact List.length_pos_iff.mpr hn1) (fun v z => (PVs.one_not (z ▸ g4) hn2)) e)
theorem close_ok {k : Nat} (hA : AddOk k) {T : List Ent} {m : List Nat} {q : List Part} {T' : List Ent} {n0 s0 p D : Nat} {ps : List Nat} {μ : Mem} (hT : T.length ≤ k) (h : SR n0 μ s0 (p :: ps) ((m, q) :: T)) (hm : Marks ((m, q) :: T)) (hne : T ≠ []) (hc : closeTop ((m, q) :: T) = some T') (hD : 2 * k + 5 ≤ D) :
   Pst n0 s0 μ T' .none (evCall fnTab D 22 [.ref s0] μ) := by
 obtain ⟨d, rfl, hd⟩ := succ_of (n := 2 * k + 4) hD
 obtain ⟨h', vs, g1, g2, g3, g4⟩ := h.pop
 have hk : Keep n0 μ (μ.set s0 (entsOf ps T).reverse) := Keep.set (h.low s0 (.head _))
 cases T with
 | nil => exact absurd rfl hne
 | cons e T =>
   obtain ⟨c, (rfl : m = [c])⟩ := hm.1
   have hs : μ[s0]? = some ((entsOf ps (e :: T)).reverse ++ [.il [.str [c], .ref p]]) := by rw [h.stk]; exact congrArg some List.reverse_cons
   exact .keep hk (close_core hA hT hd (pop_r hs) h' g2 g3 g4 hm.2 hc fun _ => Keep.refl _ _)
theorem bin_tx {μ : Mem} {u t : List Nat} (h : u.length + t.length ≤ 100000) : binV .add (.str u) (.str t) = some (.str (u ++ t)) := bin_add_ss (by have : LIM = 1048576 := rfl; lia)
theorem put_end {μ : Mem} {p : Nat} {W : List V} {v1 v : V} (h : μ[p]? = some (W ++ [v1])) : putV μ (.ref p) (.int ((W.length : Nat))) v = some (μ.set p (W ++ [v])) := by
 show (μ[p]?).bind (fun vs => (pyPut vs ((W.length : Nat) : Int) v).map fun ws => μ.set p ws) = _
 rw [h]
 show (pyPut (W ++ [v1]) ((W.length : Nat) : Int) v).map (fun ws => μ.set p ws) = _
 unfold pyPut
 rw [if_pos ⟨by lia, by simp [-Int.natCast_add]⟩]
 simp [-Int.natCast_add]
theorem app_r {μ : Mem} {p : Nat} {vs : List V} {v : V} (h : μ[p]? = some vs) (hl : vs.length < 1048576) : appendV μ (.ref p) v = some (μ.set p (vs ++ [v])) := by
 have hL : LIM = 1048576 := rfl
 show (μ[p]?).bind (fun vs => when (vs.length < LIM) (μ.set p (vs ++ [v]))) = _
 rw [h]
 exact if_pos (by lia)
theorem SR.topAt {n0 : Nat} {μ : Mem} {s0 p : Nat} {ps : List Nat} {m : List Nat} {q : List Part} {T : List Ent} (h : SR n0 μ s0 (p :: ps) ((m, q) :: T)) :
   μ[s0]? = some ((entsOf ps T).reverse ++ [.il [.str m, .ref p]]) ∧ (entsOf ps T).reverse.length = T.length := by
 have h2 := h.len
 simp [-Int.natCast_add] at h2
 refine ⟨?_, by simp [-Int.natCast_add, entsOf, h2]⟩
 rw [h.stk]
 simp [-Int.natCast_add, entsOf]
noncomputable abbrev addTail : S := .ite (.and (.cons (.cmp .eq (.idx (.loc 1) (.int 0)) (.str [116, 101, 120, 116])) (.cons (.cmp .isIn (.idx (.idx (.loc 0) (.bin .sub (.bi .len (.cons (.loc 0) .nil)) (.int 1))) (.int 0)) (.gl 2)) (.cons (.cmp .ne (.idx (.idx (.loc 0) (.bin .sub (.bi .len (.cons (.loc 0) .nil)) (.int 1))) (.int 0)) (.str [])) .nil)))) (.cons
 (.expr (.call 22 (.cons (.loc 0) .nil))) .nil) .nil
theorem short_c (c : Nat) : ([117, 108].contains c && !([c] == ([] : List Nat))) = short [c] := by
 rw [has_2]; unfold short; rw [eq_dec, eq_dec]; exact Bool.and_true _
theorem Marks.sign {m : List Nat} {q : List Part} {T : List Ent} (hm : Marks ((m, q) :: T)) : m = [] ∨ ∃ c, m = [c] := by
 cases T with
 | nil => exact .inl hm
 | cons e T => exact .inr hm.1
theorem tail_cond {Φ : OK} {s0 p : Nat} {E : List V} {m k : List Nat} {r : List V} {x : Option V} {μ : Mem} (h1 : μ[s0]? = some (E ++ [.il [.str m, .ref p]])) (hm : m = [] ∨ ∃ c, m = [c]) :
   xE Φ (.and (.cons (.cmp .eq (.idx (.loc 1) (.int 0)) (.str [116, 101, 120, 116])) (.cons (.cmp .isIn (.idx (.idx (.loc 0) (.bin .sub (.bi .len (.cons (.loc 0) .nil)) (.int 1))) (.int 0)) (.gl 2)) (.cons (.cmp .ne (.idx (.idx (.loc 0) (.bin .sub (.bi .len (.cons (.loc 0) .nil)) (.int 1))) (.int 0)) (.str [])) .nil)))) [some (.ref s0), some (.tup (.str k :: r)), x] μ = .ok (.bool ((k == tx) && short m)) μ := by
 have t1 : xE Φ (.cmp .eq (.idx (.loc 1) (.int 0)) (.str tx)) [some (.ref s0), some (.tup (.str k :: r)), x] μ = .ok (.bool (k == tx)) μ := x_eq rfl
 have t2 : xE Φ (.idx (.idx (.loc 0) (.bin .sub (.bi .len (.cons (.loc 0) .nil)) (.int 1))) (.int 0)) [some (.ref s0), some (.tup (.str k :: r)), x] μ = .ok (.str m) μ := x_idx (x_last rfl h1) rfl rfl
 generalize (k == tx) = b at t1 ⊢
 cases b with
 | false => exact x_andF t1
 | true =>
   refine x_andT t1 ?_
   rcases hm with rfl | ⟨c, rfl⟩
   · exact x_andT (by rw [e_cmp, t2, ob_ok, cmpK_r, g2]; rfl) (x_and1 (x_neF t2 rfl))
   · exact (x_and2 (x_in t2 g2) (x_ne t2)).trans (congrArg (fun b => O.ok (V.bool b) μ) (short_c c))
theorem short_ne {m : List Nat} {q : List Part} {T : List Ent} (hm : Marks ((m, q) :: T)) (h : short m = true) : T ≠ [] := fun z => by
 subst z
 have : m = [] := hm
 subst this
 simp [-Int.natCast_add, short] at h
theorem Marks.retop {m : List Nat} {q q' : List Part} {T : List Ent} (hm : Marks ((m, q) :: T)) : Marks ((m, q') :: T) := by
 cases T with
 | nil => exact hm
 | cons e T => exact hm
theorem ite_some {α : Type} {c : Prop} [Decidable c] {a b : α} (h : (if c then some a else none) = some b) : c ∧ b = a := by
 by_cases hc : c
 · rw [if_pos hc] at h; cases h; exact ⟨hc, rfl⟩
 · rw [if_neg hc] at h; cases h
theorem addTo_inv {q q' : List Part} {pt : Part} (h : addTo q pt = some q') : (∃ u q0 t, q = .text u :: q0 ∧ pt = .text t ∧ u.length + t.length ≤ 100000 ∧ q' = .text (u ++ t) :: q0) ∨ q.length < 100000 ∧ q' = pt :: q ∧ (isText pt = true → ∀ p q0, q = p :: q0 → isText p = false) := by
 cases pt with
 | text t =>
   cases q with
   | nil => exact .inr ⟨Nat.le_of_ble_eq_true rfl, (ite_some (b := q') h).2, fun _ _ _ z => nomatch z⟩
   | cons a q =>
     cases a with
     | text u => exact .inl ⟨u, q, t, rfl, rfl, ite_some (b := q') h⟩
     | expr u => exact .inr ⟨(ite_some (b := q') h).1.2, (ite_some (b := q') h).2, fun _ _ _ z => (List.cons.inj z).1 ▸ rfl⟩
     | case u w => exact .inr ⟨(ite_some (b := q') h).1.2, (ite_some (b := q') h).2, fun _ _ _ z => (List.cons.inj z).1 ▸ rfl⟩
 | expr t =>
   have h : (if q.length < 100000 then some (Part.expr t :: q) else none) = some q' := by cases q with | nil => exact h | cons a q => cases a <;> exact h
   exact .inr ⟨(ite_some h).1, (ite_some h).2, fun z => nomatch z⟩
 | case m t =>
   have h : (if q.length < 100000 then some (Part.case m t :: q) else none) = some q' := by cases q with | nil => exact h | cons a q => cases a <;> exact h
   exact .inr ⟨(ite_some h).1, (ite_some h).2, fun z => nomatch z⟩
section
variable {Φ : OK} {s0 p : Nat} {E W vs : List V} {m u t k0 : List Nat} {r : List V} {μ : Mem}
theorem ah_join (h1 : μ[s0]? = some (E ++ [.il [.str m, .ref p]])) (c1 : μ[p]? = some (W ++ [.tup [.str tx, .str u]])) (hle : u.length + t.length ≤ 100000) :
   xSs Φ f_add_part.body [some (.ref s0), some (.tup [.str tx, .str t]), none] μ = xSs Φ (.cons addTail .nil) [some (.ref s0), some (.tup [.str tx, .str t]), some (.ref p)] (μ.set p (W ++ [.tup [.str tx, .str (u ++ t)]])) := by
 refine z_as (P := fun x => x) (x_idx (x_last rfl h1) rfl rfl) (z_t (P := fun x => x) (x_and3 (p := true) (q := true) (t := true) rfl (x_posT rfl c1) (x_eq (t := tx) (x_idx (x_last rfl c1) rfl rfl))) ?_)
 exact z_st (s_put (x_tup2 rfl (x_bin (x_idx (x_last rfl c1) rfl rfl) rfl (bin_tx (μ := μ) hle))) rfl (x_bin (x_bi1 rfl (bi_len_r c1)) rfl rfl) (by rw [len_m1]; exact put_end c1)) (z_nil rfl)
theorem ah_app (h1 : μ[s0]? = some (E ++ [.il [.str m, .ref p]])) (c1 : μ[p]? = some vs) (hl : vs.length < 1048576) (hc : k0 = tx → vs = [] ∨ ∃ W k1 r1, vs = W ++ [.tup (.str k1 :: r1)] ∧ k1 ≠ tx) :
   xSs Φ f_add_part.body [some (.ref s0), some (.tup (.str k0 :: r)), none] μ = xSs Φ (.cons addTail .nil) [some (.ref s0), some (.tup (.str k0 :: r)), some (.ref p)] (μ.set p (vs ++ [.tup (.str k0 :: r)])) := by
 refine z_as (P := fun x => x) (x_idx (x_last rfl h1) rfl rfl) (z_e (P := fun x => x) ?_ (z_st (s_app rfl rfl (app_r c1 hl)) (z_nil rfl)))
 by_cases hk : k0 = tx
 · refine x_andT (x_eqT rfl hk) ?_
   rcases hc hk with rfl | ⟨W, k1, r1, rfl, hk1⟩
   · exact x_andF (x_pos rfl c1)
   · exact x_andT (x_posT rfl c1) (x_and1 (x_eqF (x_idx (x_last rfl c1) rfl rfl) hk1))
 · exact x_andF (x_eqF rfl hk)
end
theorem last_no {L : List Nat} {μ : Mem} {vs : List V} {q : List Part} (h : PVs L μ vs.reverse q) (hno : ∀ p q0, q = p :: q0 → isText p = false) : vs = [] ∨ ∃ W k1 r1, vs = W ++ [.tup (.str k1 :: r1)] ∧ k1 ≠ tx := by
 cases q with
 | nil => exact .inl h.nil_of
 | cons p q =>
   obtain ⟨W, v, e, d1, _⟩ := h.last
   obtain ⟨k, r, rfl, hk⟩ := part_head d1
   exact .inr ⟨W, k, r, e, fun z => by have := hno _ _ rfl; rw [hk.mp z] at this; cases this⟩
theorem SR.cell {n0 : Nat} {μ : Mem} {s0 p : Nat} {ps : List Nat} {e : Ent} {T : List Ent} (h : SR n0 μ s0 (p :: ps) (e :: T)) : ∃ vs, μ[p]? = some vs ∧ PVs (s0 :: p :: ps) μ vs.reverse e.2 := by
 cases h.cells with
 | cons c1 c2 c3 => exact ⟨_, c1, c2⟩
theorem PV.of_text {L : List Nat} {μ : Mem} {v : V} {t : List Nat} (h : PV L μ v (.text t)) : v = .tup [.str tx, .str t] := by cases h; rfl
section
variable {Φ : OK} {n0 s0 p : Nat} {ps : List Nat} {m : List Nat} {q q' : List Part} {T : List Ent} {μ : Mem} {k0 u t : List Nat} {r : List V} {pt : Part}
noncomputable def Hd (Φ : OK) (n0 s0 p : Nat) (ps : List Nat) (e : Ent) (T : List Ent) (μ : Mem) (v : V) : Prop :=
 ∃ ws, SR n0 (μ.set p ws) s0 (p :: ps) (e :: T) ∧ xSs Φ f_add_part.body [some (.ref s0), some v, none] μ = xSs Φ (.cons addTail .nil) [some (.ref s0), some v, some (.ref p)] (μ.set p ws)
theorem hd_join (h : SR n0 μ s0 (p :: ps) ((m, .text u :: q) :: T)) (hle : u.length + t.length ≤ 100000) : Hd Φ n0 s0 p ps (m, .text (u ++ t) :: q) T μ (.tup [.str tx, .str t]) := by
 obtain ⟨vs, c1, c2⟩ := h.cell
 obtain ⟨W, v, e, d1, d2⟩ := c2.last
 have k := ah_join (Φ := Φ) h.topAt.1 (c1.trans (by rw [e, d1.of_text])) hle
 unfold Hd
 exact ⟨_, h.top (by rw [List.reverse_append]; exact .cons (.text _) d2), k⟩
theorem hd_app (h : SR n0 μ s0 (p :: ps) ((m, q) :: T)) (hv : PV (s0 :: p :: ps) μ (.tup (.str k0 :: r)) pt) (hl : q.length < 100000) (hno : k0 = tx → ∀ p q0, q = p :: q0 → isText p = false) : Hd Φ n0 s0 p ps (m, pt :: q) T μ (.tup (.str k0 :: r)) := by
 obtain ⟨vs, c1, c2⟩ := h.cell
 have hl2 : vs.length < 1048576 := by
   rw [← List.length_reverse, c2.len]; exact Nat.lt_trans hl (Nat.le_of_ble_eq_true rfl)
 have k := ah_app (Φ := Φ) (r := r) h.topAt.1 c1 hl2 fun z => last_no c2 (hno z)
 unfold Hd
 exact ⟨_, h.top (by rw [List.reverse_append]; exact .cons hv c2), k⟩
theorem add_head (h : SR n0 μ s0 (p :: ps) ((m, q) :: T)) (hv : PV (s0 :: p :: ps) μ (.tup (.str k0 :: r)) pt) (hk : k0 = tx ↔ isText pt = true) (ha : addTo q pt = some q') : Hd Φ n0 s0 p ps (m, q') T μ (.tup (.str k0 :: r)) := by
 rcases addTo_inv ha with ⟨u, q0, t, e1, e2, hle, e3⟩ | ⟨hlq, e, hno⟩
 · rw [e3]
   rw [e1] at h
   rw [e2] at hv
   rw [hv.of_text]
   exact hd_join h hle
 · rw [e]
   exact hd_app h hv hlq fun z => hno (hk.mp z)
end
theorem addT_ok : ∀ k, AddOk k
 | 0, T, hT, n0, s0, ps, μ, v, pt, T', D, h, hm, hv, ha, hD => by
   have : T = [] := by simpa using hT
   subst this
   simp [-Int.natCast_add, addPart] at ha
 | k + 1, T, hT, n0, s0, ps, μ, v, pt, T', D, h, hm, hv, ha, hD => by
   cases T with
   | nil => simp [-Int.natCast_add, addPart] at ha
   | cons e T =>
     obtain ⟨m, q⟩ := e
     cases ps with
     | nil => have := h.len; simp [-Int.natCast_add] at this
     | cons p ps =>
       obtain ⟨d, rfl, hd⟩ := succ_of (n := 2 * k + 5) hD
       rw [addPart_eq] at ha
       cases hto : addTo q pt with
       | none => rw [hto] at ha; cases ha
       | some q' =>
         rw [hto] at ha
         dsimp only at ha
         obtain ⟨k0, r, hv0, hk0⟩ := part_head hv
         subst hv0
         obtain ⟨ws, h', hh⟩ := add_head (Φ := evCall fnTab d) h hv hk0 hto
         have hkp : Keep n0 μ (μ.set p ws) := Keep.set (h.low p (.tail _ (.head _)))
         have hm' : Marks ((m, q') :: T) := hm.retop
         have hc := tail_cond (Φ := evCall fnTab d) (k := k0) (r := r) (x := some (.ref p)) h'.topAt.1 hm'.sign
         rw [show (k0 == tx) = isText pt from Bool.eq_iff_iff.mpr (beq_iff_eq.trans hk0)] at hc
         have hrun : ∀ y, finK (xSs (evCall fnTab d) (.cons addTail .nil) [some (.ref s0), some (.tup (.str k0 :: r)), some (.ref p)] (μ.set p ws)) = y → evCall fnTab (d + 1) 21 [.ref s0, .tup (.str k0 :: r)] μ = y := fun y z => (evCall_succ rfl).trans (run_fn rfl ((congrArg finK hh).trans z))
         by_cases hs : (isText pt && short m) = true
         · rw [if_pos hs] at ha
           rw [hs] at hc
           exact .keep hkp (.map (close_ok (addT_ok k) (Nat.le_of_succ_le_succ hT) h' hm' (short_ne hm' (Bool.and_eq_true_iff.mp hs).2) ha hd) fun μ1 g => hrun _ (z_t hc (z_ex (x_ca1 rfl g) (z_nil rfl))))
         · rw [if_neg hs] at ha
           rw [Bool.eq_false_iff.mpr hs] at hc
           cases ha
           exact ⟨_, _, hrun _ (z_f hc (z_nil rfl)), h', hkp, hm'⟩
theorem getElem?_alloc {μ : Mem} {r : Nat} {vs ws : List V} (h : μ[r]? = some vs) : (μ ++ [ws])[r]? = some vs := by
 have hlt : r < μ.length := (List.getElem?_eq_some_iff.mp h).1
 rw [List.getElem?_append_left hlt]; exact h
theorem SR.alloc {n0 : Nat} {μ : Mem} {s0 : Nat} {ps : List Nat} {T : List Ent} (h : SR n0 μ s0 ps T) (ws : List V) : SR n0 (μ ++ [ws]) s0 ps T :=
 ⟨h.low, getElem?_alloc h.stk, h.nodup, h.cells.step (fun r vs hr hv => ⟨hr, getElem?_alloc hv⟩) fun p _ vs hv => getElem?_alloc hv⟩
theorem Keep.alloc {n0 : Nat} {μ : Mem} (h : n0 ≤ μ.length) (ws : List V) : Keep n0 μ (μ ++ [ws]) := ⟨fun i hi => by
 rw [List.getElem?_append_left (by lia)], by simp⟩
theorem SR.lt {n0 : Nat} {μ : Mem} {s0 : Nat} {ps : List Nat} {T : List Ent} (h : SR n0 μ s0 ps T) : s0 < μ.length := (List.getElem?_eq_some_iff.mp h.stk).1
theorem comp_run {α : Type} {h g : α → V} {f : α → Bool} {cond elt : V → Mem → O V} {st : Mem → Prop} {μ : Mem} (hst : ∀ ws, st (μ ++ [ws])) (ts : List α) : ∀ acc : List V, acc.length + ts.length ≤ 1000 → (∀ t ∈ ts, ∀ μ', cond (h t) μ' = .ok (.bool (f t)) μ') → (∀ t ∈ ts, ∀ μ', elt (h t) μ' = .ok (g t) μ') →
   compL elt cond st μ.length (ts.map h) (μ ++ [acc]) = .ok () (μ ++ [acc ++ (ts.filter f).map g]) := by
 induction ts with
 | nil => intro acc _ _ _; show _ = O.ok () (μ ++ [acc ++ []]); rw [List.append_nil]; rfl
 | cons t ts ih =>
   intro acc hl hc he
   have hl' : acc.length + (ts.length + 1) ≤ 1000 := hl
   have ih := fun acc' (q : acc'.length + ts.length ≤ 1000) => ih acc' q (fun v hv => hc v (.tail _ hv)) (fun v hv => he v (.tail _ hv))
   show BX _ (cond (h t) (μ ++ [acc])) = _
   rw [hc t (.head _), List.filter_cons]
   cases f t with
   | false =>
     show onlyO _ _ = _
     rw [onlyO, if_pos (hst _)]
     exact ih acc (by lia)
   | true =>
     show BX _ (elt (h t) (μ ++ [acc])) = _
     rw [he t (.head _)]
     have e : (μ ++ [acc])[μ.length]? = some acc := List.getElem?_concat_length
     have a : appendV (μ ++ [acc]) (.ref μ.length) (g t) = some (μ ++ [acc ++ [g t]]) := by
       show ((μ ++ [acc])[μ.length]?).bind _ = _
       rw [e]
       show when (acc.length < LIM) _ = _
       rw [when_r, if_pos (Nat.lt_of_lt_of_le (show acc.length < 1001 by lia) (by decide)), List.set_append_right _ _ (Nat.le_refl _), Nat.sub_self]; rfl
     show optO _ (appendV (μ ++ [acc]) (.ref μ.length) (g t)) = _
     rw [a]
     show onlyO _ _ = _
     rw [onlyO, if_pos (hst _), ih (acc ++ [g t]) (by rw [List.length_append]; show acc.length + 1 + ts.length ≤ 1000; lia), List.append_assoc]; rfl
theorem e_run {Φ : OK} {elt it C : E} {caps : List Nat} {l : Loc} {μ : Mem} {v : V} {α : Type} {h g : α → V} (f : α → Bool) {ts : List α} (hi : xE Φ it l μ = .ok v μ) (hv : itemsOf μ v = some (ts.map h)) (hst : ∀ ws, stays v (ts.map h) (μ ++ [ws])) (hl : ts.length ≤ 1000)
   (hc : ∀ t ∈ ts, ∀ μ', xE Φ C (some (h t) :: caps.map fun c => (l[c]?).join) μ' = .ok (.bool (f t)) μ') (he : ∀ t ∈ ts, ∀ μ', xE Φ elt (some (h t) :: caps.map fun c => (l[c]?).join) μ' = .ok (g t) μ') :
   xE Φ (.comp caps elt it C) l μ = .ok (.ref μ.length) (μ ++ [(ts.filter f).map g]) := by
 rw [e_comp, hi, ob_ok, compK, hv]
 show B1 _ (compL _ _ _ _ _ _) = _
 rw [comp_run (f := f) (g := g) (cond := fun x μ' => xE Φ C (some x :: caps.map fun c => (l[c]?).join) μ') (elt := fun x μ' => xE Φ elt (some x :: caps.map fun c => (l[c]?).join) μ') hst ts [] (by rw [List.length_nil, Nat.zero_add]; exact hl) hc he, ob_ok1, List.nil_append]
theorem e_pick {Φ : Nat → List V → Mem → O V} {C : E} {s0 : Nat} {l : Loc} {μ : Mem} {vs : List V} {f : V → Bool} (h : μ[s0]? = some vs) (hl : vs.length ≤ 1000) (hc : ∀ v ∈ vs, ∀ μ', xE Φ C [some v] μ' = .ok (.bool (f v)) μ') :
   xE Φ (.comp [] (.loc 0) (.loc 0) C) (some (.ref s0) :: l) μ = .ok (.ref μ.length) (μ ++ [vs.filter f]) := by
 have e := e_run (caps := []) (elt := .loc 0) (h := id) (g := id) (ts := vs) f (show xE Φ (.loc 0) (some (.ref s0) :: l) μ = .ok (.ref s0) μ from rfl) (by rw [List.map_id]; exact h) (fun ws => by rw [List.map_id]; exact getElem?_alloc h) hl hc (fun _ _ _ => rfl)
 rw [List.map_id] at e; exact e
theorem eq_same {μ : Mem} {a b t : V} {xs ys : List V} (h1 : listOf μ a = some xs) (h2 : listOf μ b = some ys) (hl : xs.length = ys.length) (f1 : flat 60 μ a = some t) (f2 : flat 60 μ b = some t) : eqL μ a b = some true := by
 unfold eqL
 rw [h1, h2, Option.bind_some, Option.bind_some, if_neg (not_not_intro hl), if_pos ⟨t, f1, f2⟩]
theorem eq_less {μ : Mem} {a b : V} {xs ys : List V} (h1 : listOf μ a = some xs) (h2 : listOf μ b = some ys) (hl : xs.length ≠ ys.length) : eqL μ a b = some false := by
 unfold eqL
 rw [h1, h2, Option.bind_some, Option.bind_some, if_pos hl]
theorem cmp_ne_nil {μ : Mem} {r : Nat} {vs : List V} (h : μ[r]? = some vs) : cmpV μ .ne (.ref r) (.il []) = some (!vs.isEmpty) := by
 show (eqL μ (.ref r) (.il [])).map (!·) = _
 cases vs with
 | nil => rw [eq_same (a := .ref r) (b := .il []) (t := .il []) h rfl rfl (by show ((μ[r]?).bind _) = _; rw [h]; rfl) rfl]; rfl
 | cons v vs => rw [eq_less (a := .ref r) (b := .il []) h rfl (Nat.succ_ne_zero _)]; rfl
noncomputable def letter (m : List Nat) : Bool := [[85], [76], [70]].contains m
noncomputable def endLetters : Nat → List Ent → Option (List Ent)
 | 0, T => if T.any (fun e => letter e.1) = true then none else some T
 | k + 1, T => if T.any (fun e => letter e.1) = true then (closeTop T).bind (endLetters k) else some T
theorem ents_mem {ps : List Nat} {T : List Ent} {v : V} (h : v ∈ entsOf ps T) : ∃ m p, v = .il [.str m, .ref p] := by
 unfold entsOf at h
 obtain ⟨i, hi, rfl⟩ := List.mem_iff_getElem.mp h
 simp
theorem ents_any (f : List Nat → Bool) (g : V → Bool) (hg : ∀ m p, g (.il [.str m, .ref p]) = f m) : ∀ {ps : List Nat} {T : List Ent}, ps.length = T.length → ((entsOf ps T).filter g).length = (T.filter fun e => f e.1).length
 | [], [], _ => rfl
 | [], _ :: _, h => by simp at h
 | _ :: _, [], h => by simp at h
 | p :: ps, (m, q) :: T, h => by
   have ih := ents_any f g hg (ps := ps) (T := T) (by simpa using h)
   have e : entsOf (p :: ps) ((m, q) :: T) = .il [.str m, .ref p] :: entsOf ps T := rfl
   rw [e]
   simp only [List.filter_cons, hg]
   split <;> simp [ih]
noncomputable def markOf : V → List Nat
 | .il [.str m, .ref _] => m
 | _ => []
theorem c_close {T : List Ent} {T' : List Ent} {n0 s0 D : Nat} {ps : List Nat} {μ : Mem} {K : Nat} (h : SR n0 μ s0 ps T) (hm : Marks T) (hl : 2 ≤ T.length) (hK : T.length ≤ K) (hc : closeTop T = some T') (hD : 2 * K + 5 ≤ D) :
   Pst n0 s0 μ T' .none (evCall fnTab D 22 [.ref s0] μ) := by
 cases T with
 | nil => simp at hl
 | cons e T =>
   obtain ⟨m, q⟩ := e
   cases ps with
   | nil => have := h.len; simp at this
   | cons p ps =>
     simp only [List.length_cons] at hl hK
     exact close_ok (addT_ok T.length) (Nat.le_refl _) h hm (by intro z; subst z; simp at hl) hc (by lia)
theorem marks_one {T : List Ent} (hm : Marks T) (h : T.any (fun e => letter e.1) = true) : 2 ≤ T.length := by
 match T, hm, h with
 | [e], hm, h =>
   have : e.1 = [] := hm
   simp [this, letter] at h
 | _ :: _ :: _, _, _ => simp
 | [], _, h => simp at h
theorem addPart_len : ∀ (T : List Ent) (p : Part) (T' : List Ent), addPart T p = some T' → T'.length ≤ T.length
 | [], p, T', h => by simp [addPart] at h
 | (m, q) :: T, p, T', h => by
   rw [addPart_eq] at h
   split at h
   · cases h
   · split at h
     · unfold closeTop at h
       dsimp only at h
       split at h
       · cases h; simp
       · split at h
         · have := addPart_len T _ _ h; simp; lia
         · cases h
       · have := addPart_len T _ _ h; simp; lia
     · cases h; simp
theorem closeTop_len {T T' : List Ent} (h : closeTop T = some T') : T'.length + 1 ≤ T.length := by
 cases T with
 | nil => simp [closeTop] at h
 | cons e T =>
   unfold closeTop at h
   obtain ⟨m, q⟩ := e
   dsimp only at h
   split at h
   · cases h; simp
   · split at h
     · have := addPart_len T _ _ h; simp; lia
     · cases h
   · have := addPart_len T _ _ h; simp; lia
noncomputable abbrev letC : E := .cmp .isIn (.idx (.loc 0) (.int 0)) (.tup (.cons (.str [85]) (.cons (.str [76]) (.cons (.str [70]) .nil))))
noncomputable abbrev letW : S := .whl (.cmp .ne (.comp [] (.loc 0) (.loc 0) letC) (.il .nil)) f_end_letters_b1
theorem let_cond {Φ : Nat → List V → Mem → O V} {n0 s0 : Nat} {ps : List Nat} {T : List Ent} {μ : Mem} (h : SR n0 μ s0 ps T) (hK : T.length ≤ 1000) :
   ∃ ws, xE Φ (.cmp .ne (.comp [] (.loc 0) (.loc 0) letC) (.il .nil)) [some (.ref s0)] μ = .ok (.bool (T.any fun e => letter e.1)) (μ ++ [ws]) := by
 have hpk := e_pick (Φ := Φ) (C := letC) (f := fun v => letter (markOf v)) (l := []) h.stk (by simp [entsOf, h.len]; lia) (fun v hv μ' => by
   obtain ⟨m, p, rfl⟩ := ents_mem (List.mem_reverse.mp hv)
   simp [ix_l0, cmp_in_st, strsOf, letter, markOf])
 have hne := cmp_ne_nil (μ := μ ++ [(entsOf ps T).reverse.filter fun v => letter (markOf v)]) (r := μ.length) (vs := (entsOf ps T).reverse.filter fun v => letter (markOf v)) (by rw [List.getElem?_append_right (Nat.le_refl _)]; simp)
 have hb : (!((entsOf ps T).reverse.filter fun v => letter (markOf v)).isEmpty) = T.any fun e => letter e.1 := by
   have := ents_any letter (fun v => letter (markOf v)) (fun m p => rfl) h.len
   rw [List.filter_reverse, List.isEmpty_reverse]
   rw [Bool.eq_iff_iff]
   rw [List.any_eq_true]
   have e1 : (!((entsOf ps T).filter fun v => letter (markOf v)).isEmpty) = true ↔ ((entsOf ps T).filter fun v => letter (markOf v)).length ≠ 0 := by
     cases (entsOf ps T).filter fun v => letter (markOf v) <;> simp
   rw [e1, this]
   constructor
   · intro hl
     have : (T.filter fun e => letter e.1) ≠ [] := fun z => hl (by rw [z]; rfl)
     obtain ⟨e, he⟩ := List.exists_mem_of_ne_nil _ this
     exact ⟨e, (List.mem_filter.mp he).1, (List.mem_filter.mp he).2⟩
   · rintro ⟨e, he, hl⟩ hz
     have : e ∈ T.filter fun e => letter e.1 := List.mem_filter.mpr ⟨he, hl⟩
     rw [List.length_eq_zero_iff.mp hz] at this
     cases this
 rw [hb] at hne
 generalize (entsOf ps T).reverse.filter (fun v => letter (markOf v)) = ws at hpk hne
 refine ⟨ws, ?_⟩
 simp only [e_cmp, hpk]
 simp [hne]
theorem letters_ok {K d : Nat} (hK1 : K ≤ 1000) (hd : 2 * K + 5 ≤ d) : ∀ (k : Nat) (T T' : List Ent) (n0 s0 : Nat) (ps : List Nat) (μ : Mem), SR n0 μ s0 ps T → Marks T → T.length ≤ K → endLetters k T = some T' →
   ∃ ps' μ', xS (evCall fnTab d) letW [some (.ref s0)] μ = .next [some (.ref s0)] μ' ∧ SR n0 μ' s0 ps' T' ∧ Keep n0 μ μ' ∧ Marks T' := by
 have stop : ∀ (T : List Ent) (n0 s0 : Nat) (ps : List Nat) (μ : Mem), SR n0 μ s0 ps T → Marks T → T.length ≤ K → ¬ (T.any fun e => letter e.1) = true →
     ∃ ps' μ', xS (evCall fnTab d) letW [some (.ref s0)] μ = .next [some (.ref s0)] μ' ∧ SR n0 μ' s0 ps' T ∧ Keep n0 μ μ' ∧ Marks T := fun T n0 s0 ps μ h hm hK hn => by
   have hlow : n0 ≤ μ.length := Nat.le_trans (h.low s0 (by simp)) (Nat.le_of_lt h.lt)
   obtain ⟨ws, hc⟩ := let_cond (Φ := evCall fnTab d) h (by lia)
   refine ⟨ps, μ ++ [ws], ?_, h.alloc ws, Keep.alloc hlow ws, hm⟩
   rw [whl_turn, hc, whK_b, if_neg hn]
 intro k
 induction k with
 | zero =>
   intro T T' n0 s0 ps μ h hm hK he
   unfold endLetters at he
   split at he
   · cases he
   · rename_i hn
     cases he
     exact stop T n0 s0 ps μ h hm hK hn
 | succ k ih =>
   intro T T' n0 s0 ps μ h hm hK he
   unfold endLetters at he
   split at he
   · rename_i hn
     obtain ⟨T1, hT1, he⟩ := Option.bind_eq_some_iff.mp he
     have hlow : n0 ≤ μ.length := Nat.le_trans (h.low s0 (by simp)) (Nat.le_of_lt h.lt)
     obtain ⟨ws, hc⟩ := let_cond (Φ := evCall fnTab d) h (by lia)
     obtain ⟨ps1, μ1, g1, g2, g3, g4⟩ := c_close (K := K) (h.alloc ws) hm (marks_one hm hn) hK hT1 hd
     have hl1 := closeTop_len hT1
     obtain ⟨ps2, μ2, f1, f2, f3, f4⟩ := ih T1 T' n0 s0 ps1 μ1 g2 g4 (by lia) he
     refine ⟨ps2, μ2, ?_, f2, (Keep.alloc hlow ws).trans (g3.trans f3), f4⟩
     have hb : xSs (evCall fnTab d) f_end_letters_b1 [some (.ref s0)] (μ ++ [ws]) = .next [some (.ref s0)] μ1 := by simp [f_end_letters_b1, g1]
     rw [whl_turn, hc, whK_b, if_pos hn, hb, bodyK_next, f1]
   · rename_i hn
     cases he
     exact stop T n0 s0 ps μ h hm hK hn
theorem c_letters {K D : Nat} (hK1 : K ≤ 1000) (hD : 2 * K + 6 ≤ D) {k : Nat} {T T' : List Ent} {n0 s0 : Nat} {ps : List Nat} {μ : Mem} (h : SR n0 μ s0 ps T) (hm : Marks T) (hK : T.length ≤ K) (he : endLetters k T = some T') :
   Pst n0 s0 μ T' .none (evCall fnTab D 24 [.ref s0] μ) := by
 obtain ⟨d, rfl, hd⟩ := succ_of (n := 2 * K + 5) hD
 obtain ⟨ps', μ', g1, g2⟩ := letters_ok hK1 hd k T T' n0 s0 ps μ h hm hK he
 refine ⟨ps', μ', ?_, g2⟩
 rw [evCall_succ rfl]
 refine run_fn rfl ?_
 simp [f_end_letters, g1]
theorem SR.push {n0 : Nat} {μ : Mem} {s0 : Nat} {ps : List Nat} {T : List Ent} (h : SR n0 μ s0 ps T) (m : List Nat) :
   SR n0 ((μ ++ [[]]).set s0 ((entsOf ps T).reverse ++ [V.il [.str m, .ref μ.length]])) s0 (μ.length :: ps) ((m, []) :: T) := by
 have hlt := h.lt
 have hnd := h.nodup
 simp only [List.nodup_cons] at hnd
 have hps : ∀ p ∈ ps, p < μ.length := by
   intro p hp
   have key : ∀ {L : List Nat} {ps : List Nat} {T : List Ent}, Cells L μ ps T → ∀ p ∈ ps, p < μ.length := by
     intro L ps T c
     induction c with
     | nil => intro p hp; cases hp
     | cons h1 _ _ ih =>
       intro p hp
       rcases List.mem_cons.mp hp with rfl | hp
       · exact (List.getElem?_eq_some_iff.mp h1).1
       · exact ih p hp
   exact key h.cells p hp
 have hst : ∀ r vs, r ∉ s0 :: ps → μ[r]? = some vs → r ∉ s0 :: μ.length :: ps ∧ ((μ ++ [[]]).set s0 ((entsOf ps T).reverse ++ [V.il [.str m, .ref μ.length]]))[r]? = some vs := fun r vs hr hv => by
   have hrl : r < μ.length := (List.getElem?_eq_some_iff.mp hv).1
   simp only [List.mem_cons, not_or] at hr ⊢
   have h0 : s0 ≠ r := fun z => hr.1 z.symm
   refine ⟨⟨hr.1, by lia, hr.2⟩, ?_⟩
   rw [List.getElem?_set_ne h0]
   exact getElem?_alloc hv
 have hne : s0 ≠ μ.length := by lia
 refine ⟨fun p hp => ?_, ?_, ?_, .cons (vs := []) ?_ .nil (h.cells.step hst fun p hp vs hv => ?_)⟩
 · have hl0 := h.low s0 (by simp)
   rcases List.mem_cons.mp hp with rfl | hp
   · exact hl0
   · rcases List.mem_cons.mp hp with rfl | hp
     · lia
     · exact h.low p (by simp [hp])
 · rw [List.getElem?_set_self (by simp; lia)]
   simp [entsOf]
 · simp only [List.nodup_cons, List.mem_cons, not_or]
   exact ⟨⟨hne, hnd.1⟩, fun z => by have := hps _ z; lia, hnd.2⟩
 · rw [List.getElem?_set_ne hne]
   simp
 · have : s0 ≠ p := fun z => hnd.1 (z ▸ hp)
   rw [List.getElem?_set_ne this]
   exact getElem?_alloc hv
noncomputable def beginCase (k : Nat) (T : List Ent) (c : Nat) : Option (List Ent) :=
 (if [85, 76, 70].contains c = true then endLetters k T else some T).bind fun T1 =>
   if 40 < T1.length ∨ (c = 81 ∧ 8 ≤ (T1.filter fun e => e.1 == [81]).length) then none else some (([c], []) :: T1)
theorem addPart_ne : ∀ (T : List Ent) (p : Part) (T' : List Ent), Marks T → addPart T p = some T' → T' ≠ []
 | [], p, T', hm, h => by simp [addPart] at h
 | (m, q) :: T, p, T', hm, h => by
   rw [addPart_eq] at h
   split at h
   · cases h
   · split at h
     · rename_i hs
       have hne := short_ne hm (Bool.and_eq_true_iff.mp hs).2
       have hm' : Marks T := by
         cases T with
         | nil => trivial
         | cons e T => exact hm.2
       unfold closeTop at h
       dsimp only at h
       split at h
       · cases h; exact hne
       · split at h
         · exact addPart_ne T _ _ hm' h
         · cases h
       · exact addPart_ne T _ _ hm' h
     · cases h; simp
theorem closeTop_ne {T T' : List Ent} (hm : Marks T) (hl : 2 ≤ T.length) (h : closeTop T = some T') : T' ≠ [] := by
 match T, hm, hl, h with
 | (m, q) :: e :: T, hm, _, h =>
   unfold closeTop at h
   dsimp only at h
   split at h
   · cases h; simp
   · split at h
     · exact addPart_ne _ _ _ hm.2 h
     · cases h
   · exact addPart_ne _ _ _ hm.2 h
theorem closeTop_marks : ∀ (k : Nat) {T T' : List Ent}, T.length ≤ k → Marks T → 2 ≤ T.length → closeTop T = some T' → Marks T' := by
 have addM : ∀ (T : List Ent) (p : Part) (T' : List Ent), Marks T → addPart T p = some T' → Marks T' := by
   intro T
   induction T with
   | nil => intro p T' hm h; simp [addPart] at h
   | cons e T ih =>
     obtain ⟨m, q⟩ := e
     intro p T' hm h
     have hm' : Marks T := by
       cases T with
       | nil => trivial
       | cons e T => exact hm.2
     rw [addPart_eq] at h
     split at h
     · cases h
     · split at h
       · unfold closeTop at h
         dsimp only at h
         split at h
         · cases h; exact hm'
         · split at h
           · exact ih _ _ hm' h
           · cases h
         · exact ih _ _ hm' h
       · cases h; exact hm.retop
 intro k T T' hk hm hl h
 match T, hm, hl, h with
 | (m, q) :: e :: T, hm, _, h =>
   unfold closeTop at h
   dsimp only at h
   split at h
   · cases h; exact hm.2
   · split at h
     · exact addM _ _ _ hm.2 h
     · cases h
   · exact addM _ _ _ hm.2 h
theorem endLetters_ne : ∀ (k : Nat) {T T' : List Ent}, Marks T → T ≠ [] → endLetters k T = some T' → T' ≠ []
 | 0, T, T', hm, hne, h => by
   unfold endLetters at h
   split at h
   · cases h
   · cases h; exact hne
 | k + 1, T, T', hm, hne, h => by
   unfold endLetters at h
   split at h
   · rename_i hn
     obtain ⟨T1, h1, h2⟩ := Option.bind_eq_some_iff.mp h
     have hl := marks_one hm hn
     exact endLetters_ne k (closeTop_marks _ (Nat.le_refl _) hm hl h1) (closeTop_ne hm hl h1) h2
   · cases h; exact hne
noncomputable abbrev bcA : S := .ite (.cmp .isIn (.loc 1) (.str [85, 76, 70])) (.cons (.expr (.call 24 (.cons (.loc 0) .nil))) .nil) .nil
noncomputable abbrev bcE : E := .or (.cons (.cmp .gt (.bi .len (.cons (.loc 0) .nil)) (.gl 3)) (.cons (.and (.cons (.cmp .eq (.loc 1) (.str [81])) (.cons (.cmp .ge (.bi .len (.cons (.comp [] (.loc 0) (.loc 0) (.cmp .eq (.idx (.loc 0) (.int 0)) (.str [81]))) .nil)) (.gl 4)) .nil))) .nil))
theorem bc_run {Φ : OK} {s0 c : Nat} {μ μ1 μ2 μ3 : Mem} (h1 : xS Φ bcA [some (.ref s0), some (.str [c])] μ = .next [some (.ref s0), some (.str [c])] μ1) (h2 : xE Φ bcE [some (.ref s0), some (.str [c])] μ1 = .ok (.bool false) μ2) (h3 : appendV (μ2 ++ [[]]) (.ref s0) (.il [.str [c], .ref μ2.length]) = some μ3) :
   finK (xSs Φ f_begin_case.body [some (.ref s0), some (.str [c])] μ) = .ok .none μ3 :=
 z_st (P := finK) h1 (z_f h2 (z_st (s_app rfl rfl h3) (z_nil rfl)))
theorem begin_let {K d : Nat} (hK1 : K ≤ 1000) (hd : 2 * K + 6 ≤ d) {k : Nat} {T T1 : List Ent} {n0 s0 c : Nat} {ps : List Nat} {μ : Mem} (h : SR n0 μ s0 ps T) (hm : Marks T) (hT0 : T ≠ []) (hK : T.length ≤ K) (hT1 : (if [85, 76, 70].contains c = true then endLetters k T else some T) = some T1) :
   ∃ ps1 μ1, SR n0 μ1 s0 ps1 T1 ∧ Keep n0 μ μ1 ∧ Marks T1 ∧ T1 ≠ [] ∧ xS (evCall fnTab d) bcA [some (.ref s0), some (.str [c])] μ = .next [some (.ref s0), some (.str [c])] μ1 := by
 have q := x_in (Φ := evCall fnTab d) (l := [some (.ref s0), some (.str [c])]) (μ := μ) (a := .loc 1) (b := .str [85, 76, 70]) (c := c) rfl rfl
 cases hc : [85, 76, 70].contains c with
 | true =>
   rw [hc, if_pos rfl] at hT1
   rw [hc] at q
   obtain ⟨ps1, μ1, g1, g2, g3, g4⟩ := c_letters hK1 hd h hm hK hT1
   exact ⟨ps1, μ1, g2, g3, g4, endLetters_ne k hm hT0 hT1, s_itT q (z_ex (P := fun x => x) (x_ca1 rfl g1) rfl)⟩
 | false =>
   rw [hc, if_neg (by decide)] at hT1
   rw [hc] at q
   cases hT1
   exact ⟨ps, μ, h, Keep.refl n0 μ, hm, hT0, s_itF q rfl⟩
theorem begin_few {Φ : OK} {T : List Ent} {n0 s0 c : Nat} {ps : List Nat} {μ : Mem} (h : SR n0 μ s0 ps T) (hf : T.length ≤ 40) (hq : c = 81 → ¬ 8 ≤ (T.filter fun e => e.1 == [81]).length) :
   ∃ μ2, SR n0 μ2 s0 ps T ∧ Keep n0 μ μ2 ∧ xE Φ bcE [some (.ref s0), some (.str [c])] μ = .ok (.bool false) μ2 := by
 have hlen : (entsOf ps T).reverse.length = T.length := by rw [List.length_reverse, entsOf, List.length_zipWith, h.len, Nat.min_self]
 have first : xE Φ (.cmp .gt (.bi .len (.cons (.loc 0) .nil)) (.gl 3)) [some (.ref s0), some (.str [c])] μ = .ok (.bool false) μ := by
   rw [x_gt (x_len rfl h.stk) g3, hlen, decide_eq_false (by lia)]
 have q : xE Φ (.cmp .eq (.loc 1) (.str [81])) [some (.ref s0), some (.str [c])] μ = .ok (.bool (decide (c = 81))) μ := by rw [x_eq (t := [c]) rfl, eq_dec]
 by_cases hc : c = 81
 · have hn := hq hc
   have hpk := e_pick (Φ := Φ) (C := .cmp .eq (.idx (.loc 0) (.int 0)) (.str [81])) (f := fun v => markOf v == [81]) (l := [some (.str [c])]) h.stk (by lia) (fun v hv μ' => by
     obtain ⟨m, p, rfl⟩ := ents_mem (List.mem_reverse.mp hv)
     exact x_eq (x_idx rfl rfl rfl))
   have hcnt : ((entsOf ps T).reverse.filter fun v => markOf v == [81]).length = (T.filter fun e => e.1 == [81]).length := by
     rw [List.filter_reverse, List.length_reverse, ents_any (fun m => m == [81]) (fun v => markOf v == [81]) (fun m p => rfl) h.len]
   generalize (entsOf ps T).reverse.filter (fun v => markOf v == [81]) = ws at hpk hcnt
   rw [decide_eq_true hc] at q
   refine ⟨μ ++ [ws], h.alloc ws, Keep.alloc (Nat.le_trans (h.low s0 (.head _)) (Nat.le_of_lt h.lt)) ws, x_orF first (x_or1 (x_andT q (x_and1 ?_)))⟩
   rw [x_ge (x_bi1 hpk (bi_len_r List.getElem?_concat_length)) g4, hcnt, decide_eq_false (by lia)]
 · rw [decide_eq_false hc] at q
   exact ⟨μ, h, Keep.refl n0 μ, x_orF first (x_or1 (x_andF q))⟩
theorem c_begin {K D : Nat} (hK1 : K ≤ 1000) (hD : 2 * K + 7 ≤ D) {k : Nat} {T T' : List Ent} {n0 s0 c : Nat} {ps : List Nat} {μ : Mem} (h : SR n0 μ s0 ps T) (hm : Marks T) (hT0 : T ≠ []) (hK : T.length ≤ K) (he : beginCase k T c = some T') :
   Pst n0 s0 μ T' .none (evCall fnTab D 25 [.ref s0, .str [c]] μ) := by
 obtain ⟨d, rfl, hd⟩ := succ_of (n := 2 * K + 6) hD
 obtain ⟨T1, hT1, he⟩ := Option.bind_eq_some_iff.mp he
 obtain ⟨ps1, μ1, g1, g2, g3, g4, g5⟩ := begin_let hK1 hd h hm hT0 hK hT1
 by_cases hfew : 40 < T1.length ∨ (c = 81 ∧ 8 ≤ (T1.filter fun e => e.1 == [81]).length)
 · rw [if_pos hfew] at he; cases he
 rw [if_neg hfew] at he
 have hl : T1.length ≤ 40 := Nat.le_of_not_lt fun z => hfew (.inl z)
 obtain ⟨μ2, f1, f2, f3⟩ := begin_few (Φ := evCall fnTab d) (c := c) g1 hl fun z y => hfew (.inr ⟨z, y⟩)
 have hap := app_r (v := V.il [.str [c], .ref μ2.length]) (getElem?_alloc (ws := []) f1.stk) (by rw [List.length_reverse, entsOf, List.length_zipWith, f1.len, Nat.min_self]; lia)
 refine .keep (g2.trans f2) ?_
 rw [← Option.some.inj he]
 refine ⟨_, _, (evCall_succ (f := 25) rfl).trans (run_fn (fn := f_begin_case) (args := [.ref s0, .str [c]]) rfl (bc_run g5 f3 hap)), f1.push [c], (Keep.alloc (Nat.le_trans (f1.low s0 (.head _)) (Nat.le_of_lt f1.lt)) []).trans (Keep.set (f1.low s0 (.head _))), ?_⟩
 cases T1 with
 | nil => exact absurd rfl g4
 | cons e T1 => exact ⟨⟨c, rfl⟩, g3⟩
noncomputable def endShort : Nat → List Ent → Option (List Ent)
 | 0, T => if 1 < T.length ∧ short (T.headD ([], [])).1 = true then none else some T
 | k + 1, T => if 1 < T.length ∧ short (T.headD ([], [])).1 = true then (closeTop T).bind (endShort k) else some T
noncomputable def endCase (k : Nat) (T : List Ent) : Option (List Ent) := (endShort k T).bind fun T1 => if 1 < T1.length then closeTop T1 else some T1
noncomputable abbrev ecC : E := .and (.cons (.cmp .gt (.bi .len (.cons (.loc 0) .nil)) (.int 1)) (.cons (.cmp .isIn (.idx (.idx (.loc 0) (.bin .sub (.bi .len (.cons (.loc 0) .nil)) (.int 1))) (.int 0)) (.gl 2)) .nil))
noncomputable abbrev ecW : S := .whl ecC f_end_case_b1
theorem ec_cond {Φ : Nat → List V → Mem → O V} {n0 s0 : Nat} {ps : List Nat} {T : List Ent} {μ : Mem} (h : SR n0 μ s0 ps T) (hm : Marks T) (hne : T ≠ []) :
   xE Φ ecC [some (.ref s0)] μ = .ok (.bool (decide (1 < T.length ∧ short (T.headD ([], [])).1 = true))) μ := by
 cases T with
 | nil => exact absurd rfl hne
 | cons e T =>
   obtain ⟨m, q⟩ := e
   cases ps with
   | nil => have := h.len; simp [-Int.natCast_add] at this
   | cons p ps =>
     obtain ⟨h1, h2⟩ := h.topAt
     generalize (entsOf ps T).reverse = E at h1 h2
     have hl : biV μ .len [.ref s0] = some (.int ((E.length + 1 : Nat))) := by rw [bi_len_r h1]; simp [-Int.natCast_add]
     have e1 : ((E.length + 1 : Nat) : Int) - 1 = ((E.length : Nat) : Int) := by lia
     have hx : idxV μ (.ref s0) (.int ((E.length : Nat))) = some (.il [.str m, .ref p]) := by rw [ix_r h1]; simp [-Int.natCast_add]
     cases T with
     | nil =>
       have hz : E.length = 0 := h2
       have hl' : ¬ (1 : Int) < ((E.length + 1 : Nat) : Int) := by lia
       simp [-Int.natCast_add, hl, hl']
     | cons e T =>
       obtain ⟨c, rfl⟩ : ∃ c, m = [c] := hm.1
       have hl' : (1 : Int) < ((E.length + 1 : Nat) : Int) := by simp [-Int.natCast_add] at h2; lia
       by_cases z1 : c = 117
       · simp [-Int.natCast_add, hl, hl', e1, hx, ix_l0, g2, short, z1]
       · by_cases z2 : c = 108
         · simp [-Int.natCast_add, hl, hl', e1, hx, ix_l0, g2, short, z2]
         · simp [-Int.natCast_add, hl, hl', e1, hx, ix_l0, g2, short, z1, z2]
theorem short_ok {K d : Nat} (hd : 2 * K + 5 ≤ d) : ∀ (k : Nat) (T T' : List Ent) (n0 s0 : Nat) (ps : List Nat) (μ : Mem), SR n0 μ s0 ps T → Marks T → T ≠ [] → T.length ≤ K → endShort k T = some T' →
   ∃ ps' μ', xS (evCall fnTab d) ecW [some (.ref s0)] μ = .next [some (.ref s0)] μ' ∧ SR n0 μ' s0 ps' T' ∧ Keep n0 μ μ' ∧ Marks T' ∧ T' ≠ [] ∧ T'.length ≤ T.length := by
 have stop : ∀ (T : List Ent) (n0 s0 : Nat) (ps : List Nat) (μ : Mem), SR n0 μ s0 ps T → Marks T → T ≠ [] → ¬ (1 < T.length ∧ short (T.headD ([], [])).1 = true) →
     ∃ ps' μ', xS (evCall fnTab d) ecW [some (.ref s0)] μ = .next [some (.ref s0)] μ' ∧ SR n0 μ' s0 ps' T ∧ Keep n0 μ μ' ∧ Marks T ∧ T ≠ [] ∧ T.length ≤ T.length := fun T n0 s0 ps μ h hm hne hn => by
   have hc := ec_cond (Φ := evCall fnTab d) h hm hne
   refine ⟨ps, μ, ?_, h, Keep.refl n0 μ, hm, hne, Nat.le_refl _⟩
   rw [whl_turn, hc, whK_b, if_neg (by simpa using hn)]
 intro k
 induction k with
 | zero =>
   intro T T' n0 s0 ps μ h hm hne hK he
   unfold endShort at he
   split at he
   · cases he
   · rename_i hn
     cases he
     exact stop T n0 s0 ps μ h hm hne hn
 | succ k ih =>
   intro T T' n0 s0 ps μ h hm hne hK he
   unfold endShort at he
   split at he
   · rename_i hn
     obtain ⟨T1, hT1, he⟩ := Option.bind_eq_some_iff.mp he
     have hc := ec_cond (Φ := evCall fnTab d) h hm hne
     obtain ⟨ps1, μ1, g1, g2, g3, g4⟩ := c_close (K := K) h hm hn.1 hK hT1 hd
     have hl1 := closeTop_len hT1
     obtain ⟨ps2, μ2, f1, f2, f3, f4, f5, f6⟩ := ih T1 T' n0 s0 ps1 μ1 g2 g4 (closeTop_ne hm hn.1 hT1) (by lia) he
     refine ⟨ps2, μ2, ?_, f2, g3.trans f3, f4, f5, by lia⟩
     have hb : xSs (evCall fnTab d) f_end_case_b1 [some (.ref s0)] μ = .next [some (.ref s0)] μ1 := by simp [-Int.natCast_add, f_end_case_b1, g1]
     rw [whl_turn, hc, whK_b, if_pos (by simpa using hn), hb, bodyK_next, f1]
   · rename_i hn
     cases he
     exact stop T n0 s0 ps μ h hm hne hn
theorem SR.lenE {n0 : Nat} {μ : Mem} {s0 : Nat} {ps : List Nat} {T : List Ent} (h : SR n0 μ s0 ps T) : (entsOf ps T).reverse.length = T.length := by
 rw [List.length_reverse, entsOf, List.length_zipWith, h.len, Nat.min_self]
theorem c_end {K D : Nat} (hD : 2 * K + 6 ≤ D) {k : Nat} {T T' : List Ent} {n0 s0 : Nat} {ps : List Nat} {μ : Mem} (h : SR n0 μ s0 ps T) (hm : Marks T) (hne : T ≠ []) (hK : T.length ≤ K) (he : endCase k T = some T') :
   Pst n0 s0 μ T' .none (evCall fnTab D 23 [.ref s0] μ) := by
 obtain ⟨d, rfl, hd⟩ := succ_of (n := 2 * K + 5) hD
 obtain ⟨T1, hT1, he⟩ := Option.bind_eq_some_iff.mp he
 obtain ⟨ps1, μ1, f1, f2, f3, f4, f5, f6⟩ := short_ok hd k T T1 n0 s0 ps μ h hm hne hK hT1
 have hl := x_gt (Φ := evCall fnTab d) (l := [some (.ref s0)]) (x_len (i := 0) rfl f2.stk) (show xE _ (.int 1) _ μ1 = .ok (.int 1) μ1 from rfl)
 rw [f2.lenE] at hl
 refine .keep f3 ?_
 have run := fun μ2 e => (evCall_succ (d := d) (f := 23) (args := [.ref s0]) (μ := μ) rfl).trans (run_fn (fn := f_end_case) (r := .ok .none μ2) rfl e)
 by_cases h1 : 1 < T1.length
 · rw [if_pos h1] at he
   rw [decide_eq_true (by lia)] at hl
   exact (c_close (K := K) f2 f4 h1 (by lia) he hd).map fun μ2 e => run _ (z_st (P := finK) f1 (z_t hl (z_ex (x_ca1 rfl e) (z_nil rfl))))
 · rw [if_neg h1] at he
   rw [decide_eq_false (by lia)] at hl
   rw [← Option.some.inj he]
   exact ⟨ps1, μ1, run _ (z_st (P := finK) f1 (z_f hl (z_nil rfl))), f2, Keep.refl _ _, f4⟩
theorem endLetters_len : ∀ (k : Nat) {T T' : List Ent}, endLetters k T = some T' → T'.length ≤ T.length
 | 0, T, T', h => by
   unfold endLetters at h
   split at h
   · cases h
   · cases h; exact Nat.le_refl _
 | k + 1, T, T', h => by
   unfold endLetters at h
   split at h
   · obtain ⟨T1, h1, h2⟩ := Option.bind_eq_some_iff.mp h
     have := closeTop_len h1
     have := endLetters_len k h2
     lia
   · cases h; exact Nat.le_refl _
theorem beginCase_len {k c : Nat} {T T' : List Ent} (h : beginCase k T c = some T') : T'.length ≤ T.length + 1 ∧ T' ≠ [] := by
 unfold beginCase at h
 obtain ⟨T1, h1, h2⟩ := Option.bind_eq_some_iff.mp h
 split at h2
 · cases h2
 · cases h2
   refine ⟨?_, by simp⟩
   split at h1
   · have := endLetters_len k h1; simp; lia
   · cases h1; simp
noncomputable def takeCase (k : Nat) (T : List Ent) (r : List Nat) : Option (List Ent × Nat) :=
 if r.take 4 = [92, 76, 92, 117] then (((endLetters k T).bind fun T1 => beginCase k T1 117).bind fun T2 => beginCase k T2 76).map fun T3 => (T3, 4)
 else if r.take 4 = [92, 85, 92, 108] then (((endLetters k T).bind fun T1 => beginCase k T1 108).bind fun T2 => beginCase k T2 85).map fun T3 => (T3, 4)
 else if (r.drop 1).headD 0 = 69 then (endCase k T).map fun T1 => (T1, 2)
 else (beginCase k T ((r.drop 1).headD 0)).map fun T1 => (T1, 2)
section
variable {Φ : OK} {s0 n c : Nat} {s : List Nat} {μ μ1 μ2 μ3 : Mem}
theorem tc_pair {x : Nat} (hx : idxV μ (.str s) (.int ((n + 1 : Nat))) = some (.str [c])) (f4 : sliceV (.str s) (.int (n : Nat)) (.int ((n + 4 : Nat))) = some (.str [92, c, 92, x])) (hq : (x = 117 ∧ c = 76) ∨ (x = 108 ∧ c = 85))
   (a : Φ 24 [.ref s0] μ = .ok .none μ1) (b : Φ 25 [.ref s0, .str [x]] μ1 = .ok .none μ2) (e : Φ 25 [.ref s0, .str [c]] μ2 = .ok .none μ3) :
   finK (xSs Φ f_take_case.body [some (.ref s0), some (.str s), some (.int (n : Nat)), none, none] μ) = .ok (.int ((n + 4 : Nat))) μ3 := by
 refine z_as (P := finK) (x_idx rfl rfl hx) (z_as (lift_ok f4) ?_)
 rcases hq with ⟨rfl, rfl⟩ | ⟨rfl, rfl⟩ <;> exact z_t rfl (z_ex (x_ca1 rfl a) (z_ex (x_ca2 rfl rfl b) (z_ex (x_ca2 rfl rfl e) (z_ret rfl rfl))))
theorem tc_one {tk : List Nat} (hx : idxV μ (.str s) (.int ((n + 1 : Nat))) = some (.str [c])) (f4 : sliceV (.str s) (.int (n : Nat)) (.int ((n + 4 : Nat))) = some (.str tk)) (n1 : tk ≠ [92, 76, 92, 117]) (n2 : tk ≠ [92, 85, 92, 108])
   (a : c = 69 → Φ 23 [.ref s0] μ = .ok .none μ1) (b : c ≠ 69 → Φ 25 [.ref s0, .str [c]] μ = .ok .none μ1) :
   finK (xSs Φ f_take_case.body [some (.ref s0), some (.str s), some (.int (n : Nat)), none, none] μ) = .ok (.int ((n + 2 : Nat))) μ1 := by
 refine z_as (P := finK) (x_idx rfl rfl hx) (z_as (lift_ok f4) (z_f (μ' := μ) (x_orF (μ' := μ) ?_ (x_or1 (μ := μ) ?_)) ?_))
 · rw [x_eq (t := tk) rfl, eqs_dec, decide_eq_false n1]
 · rw [x_eq (t := tk) rfl, eqs_dec, decide_eq_false n2]
 by_cases k : c = 69
 · exact z_t (congrArg (fun b => O.ok (V.bool b) μ) ((eq_dec c 69).trans (decide_eq_true k))) (z_ex (x_ca1 rfl (a k)) (z_nq (z_ret rfl rfl)))
 · exact z_e (congrArg (fun b => O.ok (V.bool b) μ) ((eq_dec c 69).trans (decide_eq_false k))) (z_ex (x_ca2 rfl rfl (b k)) (z_nq (z_ret rfl rfl)))
end
theorem map_pair {α : Type} {o : Option α} {k m : Nat} {t : α} (h : o.map (fun x => (x, k)) = some (t, m)) : o = some t ∧ k = m := by
 cases o with
 | none => cases h
 | some x => cases h; exact ⟨rfl, rfl⟩
theorem tc_two {K d : Nat} (hK1 : K ≤ 998) (hd : 2 * K + 11 ≤ d) {k : Nat} {T T' : List Ent} {n0 s0 n c x : Nat} {ps : List Nat} {μ : Mem} {s : List Nat} (hx : idxV μ (.str s) (.int ((n + 1 : Nat))) = some (.str [c])) (f4 : sliceV (.str s) (.int (n : Nat)) (.int ((n + 4 : Nat))) = some (.str [92, c, 92, x])) (hq : (x = 117 ∧ c = 76) ∨ (x = 108 ∧ c = 85))
   (h : SR n0 μ s0 ps T) (hm : Marks T) (hne : T ≠ []) (hK : T.length ≤ K) (he : (((endLetters k T).bind fun T1 => beginCase k T1 x).bind fun T2 => beginCase k T2 c) = some T') :
   Pst n0 s0 μ T' (.int ((n + 4 : Nat))) (evCall fnTab (d + 1) 26 [.ref s0, .str s, .int (n : Nat)] μ) := by
 obtain ⟨T2, h2, h3⟩ := Option.bind_eq_some_iff.mp he
 obtain ⟨T1, h1, h2⟩ := Option.bind_eq_some_iff.mp h2
 have l1 := endLetters_len k h1
 have l2 := beginCase_len h2
 refine (c_letters (K := K) (D := d) (by lia) (by lia) h hm hK h1).seq fun p1 μ1 a1 a2 a4 => (c_begin (K := K) (D := d) (by lia) (by lia) a2 a4 (endLetters_ne k hm hne h1) (by lia) h2).seq fun p2 μ2 b1 b2 b4 => (c_begin (K := K + 1) (D := d) (by lia) (by lia) b2 b4 l2.2 (by lia) h3).map fun μ3 c1 => ?_
 exact (evCall_succ (f := 26) rfl).trans (run_fn (fn := f_take_case) (args := [.ref s0, .str s, .int (n : Nat)]) rfl (tc_pair hx f4 hq a1 b1 c1))
theorem take_4 {c x y : Nat} {r : List Nat} (h : (92 :: c :: r).take 4 = [92, y, 92, x]) : c = y := by
 injection h with _ h; injection h
theorem c_takeCase {K D : Nat} (hK1 : K ≤ 998) (hD : 2 * K + 12 ≤ D) {k : Nat} {T T' : List Ent} {n0 s0 n c m : Nat} {ps : List Nat} {μ : Mem} {s r : List Nat} (hs : Okt s) (ha : At s n (92 :: c :: r)) (h : SR n0 μ s0 ps T) (hm : Marks T) (hne : T ≠ []) (hK : T.length ≤ K) (he : takeCase k T (92 :: c :: r) = some (T', m)) :
   Pst n0 s0 μ T' (.int ((n + m : Nat))) (evCall fnTab D 26 [.ref s0, .str s, .int (n : Nat)] μ) := by
 obtain ⟨d, rfl, hd⟩ := succ_of (n := 2 * K + 11) hD
 have f4 := ha.slice0 hs.1 4 (by decide)
 have hx := ha.succ.ix (μ := μ)
 unfold takeCase at he
 by_cases n1 : (92 :: c :: r).take 4 = [92, 76, 92, 117]
 · rw [if_pos n1] at he
   obtain ⟨he1, rfl⟩ := map_pair he
   rw [n1] at f4
   rw [take_4 n1] at hx
   exact tc_two hK1 hd hx f4 (.inl ⟨rfl, rfl⟩) h hm hne hK he1
 rw [if_neg n1] at he
 by_cases n2 : (92 :: c :: r).take 4 = [92, 85, 92, 108]
 · rw [if_pos n2] at he
   obtain ⟨he1, rfl⟩ := map_pair he
   rw [n2] at f4
   rw [take_4 n2] at hx
   exact tc_two hK1 hd hx f4 (.inr ⟨rfl, rfl⟩) h hm hne hK he1
 rw [if_neg n2] at he
 have run := fun μ1 e => (evCall_succ (d := d) (f := 26) (args := [.ref s0, .str s, .int (n : Nat)]) (μ := μ) rfl).trans (run_fn (fn := f_take_case) (r := .ok (.int ((n + 2 : Nat))) μ1) rfl e)
 have he : (if c = 69 then (endCase k T).map fun T1 => (T1, 2) else (beginCase k T c).map fun T1 => (T1, 2)) = some (T', m) := he
 by_cases h69 : c = 69
 · rw [if_pos h69] at he
   obtain ⟨he1, rfl⟩ := map_pair he
   exact (c_end (K := K) (D := d) (by lia) h hm hne hK he1).map fun μ1 e => run _ (tc_one hx f4 n1 n2 (fun _ => e) fun z => absurd h69 z)
 · rw [if_neg h69] at he
   obtain ⟨he1, rfl⟩ := map_pair he
   exact (c_begin (K := K) (D := d) (by lia) (by lia) h hm hne hK he1).map fun μ1 e => run _ (tc_one hx f4 n1 n2 (fun z => absurd z h69) fun _ => e)
theorem c_add {K D : Nat} (hD : 2 * K + 4 ≤ D) {T T' : List Ent} {n0 s0 : Nat} {ps : List Nat} {μ : Mem} {v : V} {p : Part} (h : SR n0 μ s0 ps T) (hm : Marks T) (hK : T.length ≤ K) (hv : PV (s0 :: ps) μ v p) (he : addPart T p = some T') :
   Pst n0 s0 μ T' .none (evCall fnTab D 21 [.ref s0, v] μ) :=
 addT_ok K T hK n0 s0 ps μ v p T' D h hm hv he hD
noncomputable def sigLen (pat : Bool) (c : Nat) (r' : List Nat) : Nat := if c = 36 then scalarLen pat r' else if c = 64 then arrayLen pat r' else 0
noncomputable def escP (T : List Ent) (o : Option (List Nat × Nat)) : Option (List Ent × Nat) := match o with
 | none => none
 | some q => (addPart T (.text q.1)).map fun T1 => (T1, q.2)
noncomputable def takePiece (pat : Bool) (T : List Ent) (r : List Nat) : Option (List Ent × Nat) := match r with
 | [] => none
 | c :: r' =>
   if c = 92 then (if pat = true then (addPart T (.text ((c :: r').take 2))).map fun T1 => (T1, 2) else escP T (esc r'))
   else (if 0 < sigLen pat c r' then (addPart T (.expr ((c :: r').take (sigLen pat c r')))).map fun T1 => (T1, sigLen pat c r') else (addPart T (.text [c])).map fun T1 => (T1, 1))
theorem scalarLen_le (pat : Bool) (r : List Nat) : scalarLen pat r ≤ r.length + 1 := by
 unfold scalarLen
 split
 · simp
 · rename_i c r'
   have h1 := baseLen_le r'
   have h2 := baseLen_le (c :: r')
   have h3 := allLen_le pat _ r' (Nat.le_refl _)
   have h4 := digs_le r'
   have h5 := allLen_le pat _ (r'.drop (digs r')) (Nat.le_refl _)
   have h6 := allLen_le pat _ ((c :: r').drop (baseLen (c :: r'))) (Nat.le_refl _)
   simp only [List.length_drop, List.length_cons] at h2 h5 h6
   (repeat' split) <;> simp only [List.length_cons] <;> lia
theorem arrayLen_le (pat : Bool) (r : List Nat) : arrayLen pat r ≤ r.length + 1 := by
 unfold arrayLen
 have h1 := baseLen_le r
 have h2 := oneLen_le pat (r.drop (baseLen r))
 simp only [List.length_drop] at h2
 (repeat' split) <;> lia
theorem sigLen_le (pat : Bool) (c : Nat) (r : List Nat) : sigLen pat c r ≤ r.length + 1 := by
 unfold sigLen
 split
 · exact scalarLen_le pat r
 · split
   · exact arrayLen_le pat r
   · exact Nat.zero_le _
section
variable {Φ : OK} {s0 n c : Nat} {s : List Nat} {pat : Bool} {μ μ1 : Mem}
noncomputable abbrev tpL (s0 n : Nat) (s : List Nat) (pat : Bool) : Loc := [some (.ref s0), some (.str s), some (.int (n : Nat)), some (.bool pat), none, none, none]
theorem tp_pat {t : List Nat} (hx : idxV μ (.str s) (.int (n : Nat)) = some (.str [92])) (hs : sliceV (.str s) (.int (n : Nat)) (.int ((n + 2 : Nat))) = some (.str t)) (h : Φ 21 [.ref s0, .tup [.str tx, .str t]] μ = .ok .none μ1) :
   finK (xSs Φ f_take_piece.body (tpL s0 n s true) μ) = .ok (.int ((n + 2 : Nat))) μ1 :=
 z_as (P := finK) (x_idx rfl rfl hx) (z_t rfl (z_t rfl (z_ex (x_ca2 rfl (x_tup2 rfl (lift_ok hs)) h) (z_ret rfl rfl))))
theorem tp_esc {t : List Nat} {m : Nat} (hx : idxV μ (.str s) (.int (n : Nat)) = some (.str [92])) (hs : Φ 4 [.str s, .int (n : Nat)] μ = escK n μ (some (t, m))) (h : Φ 21 [.ref s0, .tup [.str tx, .str t]] μ = .ok .none μ1) :
   finK (xSs Φ f_take_piece.body (tpL s0 n s false) μ) = .ok (.int ((n + m : Nat))) μ1 :=
 z_as (P := finK) (x_idx rfl rfl hx) (z_t rfl (z_f rfl (z_asT (vs := [.str t, .int ((n + m : Nat))]) (x_ca2 rfl rfl hs) rfl (z_ex (x_ca2 rfl rfl h) (z_ret rfl rfl)))))
theorem tp_end {P : F → O V} {ss : Ss} {r : O V} {b : Nat} (h1 : c = 36 → Φ 19 [.str s, .int (n : Nat), .bool pat] μ = .ok (.int ((n + b : Nat))) μ) (h2 : c ≠ 36 → c = 64 → Φ 20 [.str s, .int (n : Nat), .bool pat] μ = .ok (.int ((n + b : Nat))) μ) (h3 : c ≠ 36 → c ≠ 64 → b = 0)
   (g : P (xSs Φ ss [some (.ref s0), some (.str s), some (.int (n : Nat)), some (.bool pat), some (.str [c]), some (.int ((n + b : Nat))), none] μ) = r) :
   P (xSs Φ (.cons (.assign 5 (.loc 2)) (.cons (.ite (.cmp .eq (.loc 4) (.str [36])) (.cons (.assign 5 (.call 19 (.cons (.loc 1) (.cons (.loc 2) (.cons (.loc 3) .nil))))) .nil) (.cons
     (.ite (.cmp .eq (.loc 4) (.str [64])) (.cons (.assign 5 (.call 20 (.cons (.loc 1) (.cons (.loc 2) (.cons (.loc 3) .nil))))) .nil) .nil) .nil)) ss))
     [some (.ref s0), some (.str s), some (.int (n : Nat)), some (.bool pat), some (.str [c]), none, none] μ) = r := by
 refine z_as rfl ?_
 by_cases k1 : c = 36
 · exact z_t (congrArg (fun b => O.ok (V.bool b) μ) ((eq_dec c 36).trans (decide_eq_true k1))) (z_as (h1 k1) (z_nil g))
 refine z_e (congrArg (fun b => O.ok (V.bool b) μ) ((eq_dec c 36).trans (decide_eq_false k1))) ?_
 by_cases k2 : c = 64
 · exact z_t (congrArg (fun b => O.ok (V.bool b) μ) ((eq_dec c 64).trans (decide_eq_true k2))) (z_as (h2 k1 k2) (z_nil (Φ := Φ) (z_nil (Φ := Φ) g)))
 · obtain rfl := h3 k1 k2
   exact z_f (congrArg (fun b => O.ok (V.bool b) μ) ((eq_dec c 64).trans (decide_eq_false k2))) (z_nil g)
theorem tp_exp {t : List Nat} {b : Nat} (hx : idxV μ (.str s) (.int (n : Nat)) = some (.str [c])) (hc : c ≠ 92) (h1 : c = 36 → Φ 19 [.str s, .int (n : Nat), .bool pat] μ = .ok (.int ((n + b : Nat))) μ) (h2 : c ≠ 36 → c = 64 → Φ 20 [.str s, .int (n : Nat), .bool pat] μ = .ok (.int ((n + b : Nat))) μ) (h3 : c ≠ 36 → c ≠ 64 → b = 0)
   (hb : 0 < b) (hs : sliceV (.str s) (.int (n : Nat)) (.int ((n + b : Nat))) = some (.str t)) (h : Φ 21 [.ref s0, .tup [.str ex, .str t]] μ = .ok .none μ1) :
   finK (xSs Φ f_take_piece.body (tpL s0 n s pat) μ) = .ok (.int ((n + b : Nat))) μ1 :=
 z_as (P := finK) (x_idx rfl rfl hx) (z_f (congrArg (fun b => O.ok (V.bool b) μ) ((eq_dec c 92).trans (decide_eq_false hc))) (tp_end h1 h2 h3
   (z_t (congrArg (fun b => O.ok (V.bool b) μ) (decide_eq_true (Int.ofNat_lt.mpr (Nat.lt_add_of_pos_right hb)))) (z_ex (x_ca2 rfl (x_tup2 rfl (lift_ok hs)) h) (z_ret rfl rfl)))))
theorem tp_txt (hx : idxV μ (.str s) (.int (n : Nat)) = some (.str [c])) (hc : c ≠ 92) (h1 : c = 36 → Φ 19 [.str s, .int (n : Nat), .bool pat] μ = .ok (.int ((n + 0 : Nat))) μ) (h2 : c ≠ 36 → c = 64 → Φ 20 [.str s, .int (n : Nat), .bool pat] μ = .ok (.int ((n + 0 : Nat))) μ)
   (h : Φ 21 [.ref s0, .tup [.str tx, .str [c]]] μ = .ok .none μ1) :
   finK (xSs Φ f_take_piece.body (tpL s0 n s pat) μ) = .ok (.int ((n + 1 : Nat))) μ1 :=
 z_as (P := finK) (x_idx rfl rfl hx) (z_f (congrArg (fun b => O.ok (V.bool b) μ) ((eq_dec c 92).trans (decide_eq_false hc))) (tp_end h1 h2 (fun _ _ => rfl)
   (z_f (congrArg (fun b => O.ok (V.bool b) μ) (decide_eq_false (Int.lt_irrefl _))) (z_ex (x_ca2 rfl rfl h) (z_ret rfl rfl)))))
end
theorem tp_fin {K d : Nat} (hd : 2 * K + 11 ≤ d) {pat : Bool} {T T' : List Ent} {n0 s0 n m k : Nat} {ps : List Nat} {μ : Mem} {s : List Nat} {v : V} {p : Part} (h : SR n0 μ s0 ps T) (hm : Marks T) (hK : T.length ≤ K) (hv : PV (s0 :: ps) μ v p) (he : (addPart T p).map (fun x => (x, k)) = some (T', m))
   (g : ∀ μ1, evCall fnTab d 21 [.ref s0, v] μ = .ok .none μ1 → finK (xSs (evCall fnTab d) f_take_piece.body (tpL s0 n s pat) μ) = .ok (.int ((n + k : Nat))) μ1) :
   Pst n0 s0 μ T' (.int ((n + m : Nat))) (evCall fnTab (d + 1) 27 [.ref s0, .str s, .int (n : Nat), .bool pat] μ) := by
 obtain ⟨h1, rfl⟩ := map_pair he
 exact (c_add (by lia) h hm hK hv h1).map fun μ1 e => (evCall_succ (f := 27) rfl).trans (run_fn (fn := f_take_piece) (args := [.ref s0, .str s, .int (n : Nat), .bool pat]) rfl (g μ1 e))
theorem c_takePiece {K D : Nat} (hD : 2 * K + 12 ≤ D) {pat : Bool} {T T' : List Ent} {n0 s0 n m : Nat} {ps : List Nat} {μ : Mem} {s r : List Nat} (hs : Okt s) (ha : At s n r) (h : SR n0 μ s0 ps T) (hm : Marks T) (hK : T.length ≤ K) (he : takePiece pat T r = some (T', m)) :
   Pst n0 s0 μ T' (.int ((n + m : Nat))) (evCall fnTab D 27 [.ref s0, .str s, .int (n : Nat), .bool pat] μ) := by
 obtain ⟨d, rfl, hd⟩ := succ_of (n := 2 * K + 11) hD
 cases r with
 | nil => cases he
 | cons c r' =>
   have hx := ha.ix (μ := μ)
   have he : (if c = 92 then (if pat = true then (addPart T (.text ((c :: r').take 2))).map fun T1 => (T1, 2) else escP T (esc r')) else (if 0 < sigLen pat c r' then (addPart T (.expr ((c :: r').take (sigLen pat c r')))).map fun T1 => (T1, sigLen pat c r') else (addPart T (.text [c])).map fun T1 => (T1, 1))) = some (T', m) := he
   by_cases hc : c = 92
   · rw [if_pos hc] at he
     rw [hc] at hx ha he
     cases pat with
     | true => exact tp_fin hd h hm hK (.text _) he fun μ1 e => tp_pat hx (ha.slice0 hs.1 2 (by decide)) e
     | false =>
       have ce := c_esc (μ := μ) (D := d) hs ha (by lia)
       generalize esc r' = o at ce he
       cases o with
       | none => cases he
       | some q => exact tp_fin hd h hm hK (.text _) he fun μ1 e => tp_esc hx ce e
   · rw [if_neg hc] at he
     have hsc := c_scalar (pat := pat) (μ := μ) (D := d) hs ha (by lia)
     have har := c_array (pat := pat) (μ := μ) (D := d) hs ha (by lia)
     have hbl := sigLen_le pat c r'
     have q1 : c = 36 → evCall fnTab d 19 [.str s, .int (n : Nat), .bool pat] μ = .ok (.int ((n + sigLen pat c r' : Nat))) μ := fun z => by rw [sigLen, if_pos z]; exact hsc
     have q2 : c ≠ 36 → c = 64 → evCall fnTab d 20 [.str s, .int (n : Nat), .bool pat] μ = .ok (.int ((n + sigLen pat c r' : Nat))) μ := fun y z => by rw [sigLen, if_neg y, if_pos z]; exact har
     have q3 : c ≠ 36 → c ≠ 64 → sigLen pat c r' = 0 := fun y z => by rw [sigLen, if_neg y, if_neg z]
     generalize sigLen pat c r' = b at he hbl q1 q2 q3
     by_cases hb0 : 0 < b
     · rw [if_pos hb0] at he
       have fs : sliceV (.str s) (.int (n : Nat)) (.int ((n + b : Nat))) = some (.str ((c :: r').take b)) := by
         have := ha.lt
         have := ha.len
         have := hs.1
         rw [List.length_cons] at *
         rw [sl_nn (by lia) (by lia), ha.drop, Nat.add_sub_cancel_left]
       exact tp_fin hd h hm hK (.expr _) he fun μ1 e => tp_exp hx hc q1 q2 q3 hb0 fs e
     · rw [if_neg hb0] at he
       have e0 := Nat.eq_zero_of_not_pos hb0
       rw [e0] at q1 q2
       exact tp_fin hd h hm hK (.text _) he fun μ1 e => tp_txt hx hc q1 q2 e
noncomputable def turnP (k : Nat) (pat : Bool) (T : List Ent) (r : List Nat) : Option (List Ent × Nat) := match r with
 | [] => none
 | c :: r' => if (decide (c = 92) && !r'.isEmpty && [85, 76, 70, 81, 117, 108, 69].contains (r'.headD 0)) = true then takeCase k T (c :: r') else takePiece pat T (c :: r')
theorem x_cas {Φ : OK} {l : Loc} {μ μ' : Mem} {es : Es} {vs : List V} {f : Nat} {r : O V} (h : xEs Φ es l μ = .ok vs μ') (k : Φ f vs μ' = r) : xE Φ (.call f es) l μ = r := by rw [e_call, h]; exact k
noncomputable def Nxt (n0 s0 : Nat) (μ : Mem) (T' : List Ent) (L : Option V → Loc) (w : F) : Prop := ∃ y ps' μ', w = .next (L y) μ' ∧ SR n0 μ' s0 ps' T' ∧ Keep n0 μ μ' ∧ Marks T'
theorem Pst.nx {n0 s0 : Nat} {μ : Mem} {T' : List Ent} {v : V} {x : O V} {y : Option V} {L : Option V → Loc} {w : F} (h : Pst n0 s0 μ T' v x) (g : ∀ μ1, x = .ok v μ1 → w = .next (L y) μ1) : Nxt n0 s0 μ T' L w := by
 obtain ⟨ps, μ1, a, b⟩ := h
 exact ⟨y, ps, μ1, g μ1 a, b⟩
noncomputable abbrev poL (s : List Nat) (pat : Bool) (s0 n : Nat) (y : Option V) : Loc := [some (.str s), some (.bool pat), some (.ref s0), some (.int (n : Nat)), y]
noncomputable abbrev csW : List Nat := [85, 76, 70, 81, 117, 108, 69]
theorem turn_yes {c : Nat} {r : List Nat} (h : (decide (c = 92) && !r.isEmpty && csW.contains (r.headD 0)) = true) : c = 92 ∧ ∃ e r2, r = e :: r2 ∧ csW.contains e = true := by
 rw [Bool.and_eq_true, Bool.and_eq_true] at h
 cases r with
 | nil => exact nomatch h.1.2
 | cons e r2 => exact ⟨of_decide_eq_true h.1.1, e, r2, rfl, h.2⟩
theorem turn_no {c : Nat} {r : List Nat} (h : ¬ (decide (c = 92) && !r.isEmpty && csW.contains (r.headD 0)) = true) (hc : c = 92) : r.take 1 = [] ∨ ∃ e, r.take 1 = [e] ∧ csW.contains e = false := by
 cases r with
 | nil => exact .inl rfl
 | cons e r2 => exact .inr ⟨e, rfl, Bool.eq_false_iff.mpr fun z => h (by rw [Bool.and_eq_true, Bool.and_eq_true]; exact ⟨⟨decide_eq_true hc, rfl⟩, z⟩)⟩
section
variable {Φ : OK} {s t : List Nat} {pat : Bool} {s0 n c i : Nat} {x : Option V} {μ μ1 : Mem}
theorem pb_case (hx : idxV μ (.str s) (.int (n : Nat)) = some (.str [92])) (f1 : sliceV (.str s) (.int ((n + 1 : Nat))) (.int ((n + 2 : Nat))) = some (.str [c])) (hc : csW.contains c = true) (a1 : Φ 26 [.ref s0, .str s, .int (n : Nat)] μ = .ok (.int (i : Nat)) μ1) :
   xSs Φ f_parts_of_b2 (poL s pat s0 n x) μ = .next (poL s pat s0 i (some (.str [c]))) μ1 :=
 z_as (P := fun x => x) (lift_ok f1) (z_t (P := fun x => x) (x_and3 (p := true) (q := true) (t := true) (x_eqT (x_idx rfl rfl hx) rfl) (x_neT rfl (List.cons_ne_nil _ _)) (by rw [← hc]; exact x_in rfl rfl)) (z_as (P := sQ (fun x => x) Φ _) (x_cas rfl a1) rfl))
theorem pb_piece (hx : idxV μ (.str s) (.int (n : Nat)) = some (.str [c])) (f1 : sliceV (.str s) (.int ((n + 1 : Nat))) (.int ((n + 2 : Nat))) = some (.str t)) (hb : c = 92 → t = [] ∨ ∃ e, t = [e] ∧ csW.contains e = false) {r : O V} {w : F} (a1 : Φ 27 [.ref s0, .str s, .int (n : Nat), .bool pat] μ = r)
   (g : sQ (fun x => x) Φ .nil (seqK (xSs Φ .nil) (of2 (poL s pat s0 n (some (.str t))) (asK (poL s pat s0 n (some (.str t))) 3) r)) = w) : xSs Φ f_parts_of_b2 (poL s pat s0 n x) μ = w := by
 refine z_as (P := fun x => x) (lift_ok f1) (z_e (P := fun x => x) (μ' := μ) ?_ ?_)
 · by_cases h : c = 92
   · refine x_andT (x_eqT (x_idx rfl rfl hx) (congrArg (fun c => [c]) h)) ?_
     rcases hb h with rfl | ⟨e, rfl, he⟩
     · exact x_andF (x_neF rfl rfl)
     · exact x_andT (x_neT rfl (List.cons_ne_nil _ _)) (x_and1 (by rw [← he]; exact x_in rfl rfl))
   · exact x_andF (x_eqF (x_idx rfl rfl hx) fun z => h (List.cons.inj z).1)
 · have e : xE Φ (.call 27 (.cons (.loc 2) (.cons (.loc 0) (.cons (.loc 3) (.cons (.loc 1) .nil))))) (poL s pat s0 n (some (.str t))) μ = r := x_cas rfl a1
   exact (congrArg (fun q => sQ (fun x => x) Φ .nil (seqK (xSs Φ .nil) (of2 (poL s pat s0 n (some (.str t))) (asK (poL s pat s0 n (some (.str t))) 3) q))) e).trans g
end
theorem parts_body {K d : Nat} (hK1 : K ≤ 998) (hd : 2 * K + 12 ≤ d) {k : Nat} {pat : Bool} {T T' : List Ent} {n0 s0 n m : Nat} {ps : List Nat} {μ : Mem} {s r : List Nat} {x : Option V} (hs : Okt s) (ha : At s n r) (h : SR n0 μ s0 ps T) (hm : Marks T) (hne : T ≠ []) (hK : T.length ≤ K) (he : turnP k pat T r = some (T', m)) :
   Nxt n0 s0 μ T' (poL s pat s0 (n + m)) (xSs (evCall fnTab d) f_parts_of_b2 (poL s pat s0 n x) μ) := by
 cases r with
 | nil => cases he
 | cons c r =>
   have f1 := ha.slice hs.1 1 2 (by decide) (by decide)
   have hx := ha.ix (μ := μ)
   have he : (if (decide (c = 92) && !r.isEmpty && csW.contains (r.headD 0)) = true then takeCase k T (c :: r) else takePiece pat T (c :: r)) = some (T', m) := he
   by_cases q : (decide (c = 92) && !r.isEmpty && csW.contains (r.headD 0)) = true
   · rw [if_pos q] at he
     obtain ⟨rfl, e, r2, rfl, hc⟩ := turn_yes q
     exact (c_takeCase hK1 hd hs ha h hm hne hK he).nx fun μ1 a1 => pb_case hx f1 hc a1
   · rw [if_neg q] at he
     exact (c_takePiece hd hs ha h hm hK he).nx fun μ1 a1 => pb_piece hx f1 (turn_no q) a1 rfl
noncomputable abbrev poW : S := .whl (.cmp .lt (.loc 3) (.bi .len (.cons (.loc 0) .nil))) f_parts_of_b2
theorem po_c {Φ : OK} {s : List Nat} {n : Nat} {a b x : Option V} {μ : Mem} : xE Φ (.cmp .lt (.loc 3) (.bi .len (.cons (.loc 0) .nil))) [some (.str s), a, b, some (.int (n : Nat)), x] μ = .ok (.bool (decide (n < s.length))) μ := x_ltlen rfl rfl
theorem po_end {Φ : OK} {s : List Nat} {n : Nat} {a b x : Option V} {μ : Mem} (h : s.length ≤ n) : xS Φ poW [some (.str s), a, b, some (.int (n : Nat)), x] μ = .next [some (.str s), a, b, some (.int (n : Nat)), x] μ := by
 rw [whl_turn, po_c, decide_eq_false (Nat.not_lt.mpr h), whK_f]
theorem po_turn {Φ : OK} {s : List Nat} {n : Nat} {a b x : Option V} {μ : Mem} {w : F} (h : n < s.length) (g : xSs Φ f_parts_of_b2 [some (.str s), a, b, some (.int (n : Nat)), x] μ = w) : xS Φ poW [some (.str s), a, b, some (.int (n : Nat)), x] μ = bodyK (xS Φ poW) w := by
 rw [whl_turn, po_c, decide_eq_true h, whK_t, g]
noncomputable def closeAll : Nat → List Ent → Option (List Ent)
 | 0, T => if 1 < T.length then none else some T
 | k + 1, T => if 1 < T.length then (closeTop T).bind (closeAll k) else some T
noncomputable abbrev caW : S := .whl (.cmp .gt (.bi .len (.cons (.loc 2) .nil)) (.int 1)) f_parts_of_b1
theorem closeAll_stop {k : Nat} {T : List Ent} (h : ¬ 1 < T.length) : closeAll k T = some T := by cases k <;> exact if_neg h
theorem ents_len {n0 : Nat} {μ : Mem} {s0 : Nat} {ps : List Nat} {T : List Ent} (h : SR n0 μ s0 ps T) : (entsOf ps T).reverse.length = T.length := by
 rw [List.length_reverse, entsOf, List.length_zipWith, h.len, Nat.min_self]
theorem ca_c {Φ : OK} {n0 : Nat} {μ : Mem} {s0 : Nat} {ps : List Nat} {T : List Ent} {a b c e : Option V} (h : SR n0 μ s0 ps T) : xE Φ (.cmp .gt (.bi .len (.cons (.loc 2) .nil)) (.int 1)) [a, b, some (.ref s0), c, e] μ = .ok (.bool (decide (1 < T.length))) μ :=
 (x_gt (x_len rfl h.stk) rfl).trans (congrArg (fun b => O.ok (V.bool b) μ) (decide_eq_decide.mpr (by rw [ents_len h]; lia)))
noncomputable def Lpd (n0 s0 : Nat) (μ : Mem) (T' : List Ent) (l : Loc) (w : F) : Prop := ∃ ps' μ', w = .next l μ' ∧ SR n0 μ' s0 ps' T' ∧ Keep n0 μ μ' ∧ Marks T' ∧ T'.length = 1
theorem ca_ok {K d : Nat} (hd : 2 * K + 5 ≤ d) {a b c e : Option V} {T' : List Ent} {n0 s0 : Nat} : ∀ (k : Nat) (T : List Ent) (ps : List Nat) (μ : Mem), SR n0 μ s0 ps T → Marks T → T ≠ [] → T.length ≤ K → closeAll k T = some T' →
   Lpd n0 s0 μ T' [a, b, some (.ref s0), c, e] (xS (evCall fnTab d) caW [a, b, some (.ref s0), c, e] μ) := by
 intro k
 induction k with
 | zero =>
   intro T ps μ h hm hne hK he
   rw [whl_turn, ca_c h]
   by_cases hn : 1 < T.length
   · rw [closeAll, if_pos hn] at he; cases he
   · rw [closeAll_stop hn] at he; cases he
     rw [decide_eq_false hn]
     exact ⟨ps, μ, rfl, h, .refl _ _, hm, Nat.le_antisymm (Nat.not_lt.mp hn) (List.length_pos_iff.mpr hne)⟩
 | succ k ih =>
   intro T ps μ h hm hne hK he
   rw [whl_turn, ca_c h]
   by_cases hn : 1 < T.length
   · rw [closeAll, if_pos hn] at he
     obtain ⟨T1, hT1, he⟩ := Option.bind_eq_some_iff.mp he
     obtain ⟨ps1, μ1, g1, g2, g3, g4⟩ := c_close (K := K) h hm hn hK hT1 hd
     obtain ⟨ps2, μ2, f1, f2, f3, f4⟩ := ih T1 ps1 μ1 g2 g4 (closeTop_ne hm hn hT1) (Nat.le_trans (Nat.le_of_succ_le (closeTop_len hT1)) hK) he
     rw [decide_eq_true hn, whK_t]
     exact ⟨ps2, μ2, (congrArg (bodyK _) (z_ex (P := fun x => x) (x_ca1 rfl g1) rfl)).trans f1, f2, g3.trans f3, f4⟩
   · rw [closeAll_stop hn] at he; cases he
     rw [decide_eq_false hn]
     exact ⟨ps, μ, rfl, h, .refl _ _, hm, Nat.le_antisymm (Nat.not_lt.mp hn) (List.length_pos_iff.mpr hne)⟩
inductive Go (k : Nat) (pat : Bool) : List Ent → List Nat → List Ent → List Nat → Prop
 | refl {T : List Ent} {r : List Nat} : Go k pat T r T r
 | step {T T1 T' : List Ent} {c m : Nat} {r r' : List Nat} : turnP k pat T (c :: r) = some (T1, m) → T1.length ≤ 41 → T1 ≠ [] → Go k pat T1 ((c :: r).drop m) T' r' → Go k pat T (c :: r) T' r'
theorem Go.trans {k : Nat} {pat : Bool} {T1 T2 T3 : List Ent} {r1 r2 r3 : List Nat} (h : Go k pat T1 r1 T2 r2) : Go k pat T2 r2 T3 r3 → Go k pat T1 r1 T3 r3 := by
 induction h with
 | refl => exact id
 | step h1 h2 h3 _ ih => exact fun g => .step h1 h2 h3 (ih g)
noncomputable def AtE (s : List Nat) (n : Nat) (r : List Nat) : Prop := At s n r ∨ (r = [] ∧ s.length ≤ n)
theorem At.nextE {s r : List Nat} {n : Nat} (h : At s n r) (m : Nat) : AtE s (n + m) (r.drop m) := by
 by_cases hle : m ≤ r.length
 · exact .inl (h.next m hle)
 · refine .inr ⟨List.drop_eq_nil_of_le (Nat.le_of_not_le hle), ?_⟩
   rw [h.len]
   exact Nat.add_le_add_left (Nat.le_of_not_le hle) n
theorem AtE.end' {s : List Nat} {n : Nat} (h : AtE s n []) : s.length ≤ n := h.elim (fun q => Nat.le_of_eq q.nil.symm) (fun q => q.2)
theorem AtE.at {s r : List Nat} {n c : Nat} (h : AtE s n (c :: r)) : At s n (c :: r) := h.resolve_right fun q => nomatch q.1
noncomputable def Poi (Φ : OK) (s : List Nat) (pat : Bool) (n0 s0 : Nat) (μ : Mem) (T' : List Ent) (r' : List Nat) (w : F) : Prop :=
 ∃ n' y ps' μ', w = xS Φ poW (poL s pat s0 n' y) μ' ∧ AtE s n' r' ∧ SR n0 μ' s0 ps' T' ∧ Keep n0 μ μ' ∧ Marks T' ∧ T' ≠ [] ∧ T'.length ≤ 41
theorem po_go {d : Nat} (hd : 94 ≤ d) {k : Nat} {pat : Bool} {n0 s0 : Nat} {s : List Nat} (hs : Okt s) {T T' : List Ent} {r r' : List Nat} (g : Go k pat T r T' r') : ∀ (n : Nat) (ps : List Nat) (μ : Mem) (x : Option V), AtE s n r → SR n0 μ s0 ps T → Marks T → T ≠ [] → T.length ≤ 41 →
   Poi (evCall fnTab d) s pat n0 s0 μ T' r' (xS (evCall fnTab d) poW (poL s pat s0 n x) μ) := by
 induction g with
 | refl => exact fun n ps μ x ha h hm hne hK => ⟨n, x, ps, μ, rfl, ha, h, Keep.refl n0 μ, hm, hne, hK⟩
 | step ht h1 h2 _ ih =>
   intro n ps μ x ha h hm hne hK
   obtain ⟨y1, p1, μ1, a1, a2, a3, a4⟩ := parts_body (K := 41) (x := x) (by decide) hd hs ha.at h hm hne hK ht
   obtain ⟨n2, y2, p2, μ2, b1, b2, b3, b4, b5⟩ := ih (n + _) p1 μ1 y1 (ha.at.nextE _) a2 a4 h2 h1
   exact ⟨n2, y2, p2, μ2, (po_turn ha.at.lt a1).trans b1, b2, b3, a3.trans b4, b5⟩
noncomputable abbrev T0 : List Ent := [([], [])]
theorem sr0 (μ : Mem) : SR μ.length ((μ ++ [[]]) ++ [[.il [.str [], .ref μ.length]]]) (μ.length + 1) [μ.length] T0 := by
 refine ⟨?_, ?_, ?_, .cons (vs := []) ?_ .nil .nil⟩
 · intro p hp
   simp at hp
   lia
 · have e : μ.length + 1 = (μ ++ [([] : List V)]).length := by simp
   rw [e, List.getElem?_concat_length]
   rfl
 · simp
 · simp
theorem keep0 (μ : Mem) : Keep μ.length μ ((μ ++ [[]]) ++ [[.il [.str [], .ref μ.length]]]) := by
 refine ⟨fun i hi => ?_, by simp⟩
 rw [List.getElem?_append_left (by simp; lia), List.getElem?_append_left hi]
noncomputable def PartsOf (pat : Bool) (s : List Nat) (q : List Part) : Prop := ∃ k T, Go k pat T0 s T [] ∧ closeAll k T = some [([], q)]
noncomputable def Refuse (s : List Nat) : Prop := ∃ k T r, Go k false T0 s T (92 :: r) ∧ esc r = none
theorem al_nil (μ : Mem) : allocV [] μ = .ok (.ref μ.length) (μ ++ [[]]) := rfl
theorem al_one (v : V) (μ : Mem) : allocV [v] μ = .ok (.ref μ.length) (μ ++ [[v]]) := if_pos (by have : LIM = 1048576 := rfl; simp; lia)
noncomputable abbrev M0 (μ : Mem) : Mem := (μ ++ [[]]) ++ [[.il [.str [], .ref μ.length]]]
theorem ml_ev {Φ : OK} {l : Loc} {μ : Mem} : xE Φ (.ml (.cons (.il (.cons (.str []) (.cons (.ml .nil) .nil))) .nil)) l μ = .ok (.ref (μ.length + 1)) (M0 μ) := by
 simp [al_nil, al_one, -List.append_assoc]
section
variable {Φ : OK} {s : List Nat} {pat : Bool} {μ μ1 μ2 : Mem} {n p : Nat} {y : Option V} {l : Loc}
theorem po_fin (a1 : xS Φ poW (poL s pat (μ.length + 1) 0 none) (M0 μ) = .next (poL s pat (μ.length + 1) n y) μ1) (b1 : xS Φ caW (poL s pat (μ.length + 1) n y) μ1 = .next (poL s pat (μ.length + 1) n y) μ2) (hst : μ2[μ.length + 1]? = some [.il [.str [], .ref p]]) :
   finK (xSs Φ f_parts_of.body [some (.str s), some (.bool pat), none, none, none] μ) = .ok (.ref p) μ2 :=
 z_as (P := finK) ml_ev (z_as (P := finK) rfl (z_st a1 (z_st b1 (z_ret (x_idx (x_idx rfl rfl (ix_r0 hst)) rfl rfl) rfl))))
theorem po_exc (a1 : xS Φ poW (poL s pat (μ.length + 1) 0 none) (M0 μ) = .exc l μ1) : finK (xSs Φ f_parts_of.body [some (.str s), some (.bool pat), none, none, none] μ) = .exc μ1 :=
 z_as (P := finK) ml_ev (z_as (P := finK) rfl (z_s a1 rfl))
end
theorem po_all {d : Nat} {pat : Bool} {s r : List Nat} {μ : Mem} {T : List Ent} {k : Nat} (hd : 94 ≤ d) (hs : Okt s) (g : Go k pat T0 s T r) : Poi (evCall fnTab d) s pat μ.length (μ.length + 1) (M0 μ) T r (xS (evCall fnTab d) poW (poL s pat (μ.length + 1) 0 none) (M0 μ)) :=
 po_go hd hs g 0 _ _ none (.inl ⟨rfl, Nat.zero_le _⟩) (sr0 μ) rfl (List.cons_ne_nil _ _) (by decide)
theorem SR.one {n0 : Nat} {μ : Mem} {s0 : Nat} {ps : List Nat} {m : List Nat} {q : List Part} (h : SR n0 μ s0 ps [(m, q)]) : ∃ p vs, μ[s0]? = some [.il [.str m, .ref p]] ∧ μ[p]? = some vs ∧ PVs (s0 :: ps) μ vs.reverse q ∧ n0 ≤ p := by
 match ps, h.len, h with
 | [p], _, h =>
   cases h.cells with
   | cons g1 g2 g3 => exact ⟨p, _, h.stk, g1, g2, h.low p (.tail _ (.head _))⟩
noncomputable def PaR (q : List Part) (μ : Mem) (x : O V) : Prop := ∃ p μ' vs, x = .ok (.ref p) μ' ∧ μ'[p]? = some vs ∧ (∃ L, PVs L μ' vs.reverse q) ∧ Keep μ.length μ μ' ∧ μ.length ≤ p
theorem c_parts {D : Nat} (hD : 95 ≤ D) {pat : Bool} {s : List Nat} {q : List Part} {μ : Mem} (hs : Okt s) (hp : PartsOf pat s q) : PaR q μ (evCall fnTab D 28 [.str s, .bool pat] μ) := by
 obtain ⟨d, rfl, hd⟩ := succ_of (n := 94) hD
 obtain ⟨k, T, g, hc⟩ := hp
 obtain ⟨n1, y1, p1, μ1, a1, a2, a3, a4, a5, a6, a7⟩ := po_all (μ := μ) hd hs g
 obtain ⟨p2, μ2, b1, b2, b3, _⟩ := ca_ok (K := 41) (d := d) (Nat.le_trans (by decide) hd) k T p1 μ1 a3 a5 a6 a7 hc
 obtain ⟨p, vs, c1, c2, c3, c4⟩ := b2.one
 exact ⟨p, μ2, vs, (evCall_succ rfl).trans (run_fn rfl (po_fin (a1.trans (po_end a2.end')) b1 c1)), c2, ⟨_, c3⟩, (keep0 μ).trans (a4.trans b3), c4⟩
theorem esc_none {c : Nat} {r : List Nat} (h : esc (c :: r) = none) : [85, 76, 70, 81, 117, 108, 69].contains c = false := by
 by_cases z : c = 120 ∨ c = 111 ∨ c = 78
 · rcases z with rfl | rfl | rfl <;> rfl
 · exfalso
   simp only [not_or] at z
   unfold esc at h
   dsimp only at h
   split at h
   · cases h
   · rw [if_neg (c := c = 120 ∧ _) (fun q => z.1 q.1), if_neg (c := c = 111 ∧ _) (fun q => z.2.1 q.1), if_neg (c := c = 120) z.1, if_neg (c := c = 78 ∧ _) (fun q => z.2.2 q.1), if_neg (c := c = 78 ∧ _) (fun q => z.2.2 q.1)] at h
     repeat' split at h
     all_goals cases h
theorem parts_exc {d : Nat} (hd : 5 ≤ d) {n : Nat} {μ : Mem} {s r : List Nat} {st : Nat} {x : Option V} (hs : Okt s) (ha : At s n (92 :: r)) (he : esc r = none) :
   ∃ l', xSs (evCall fnTab d) f_parts_of_b2 (poL s false st n x) μ = .exc l' μ := by
 obtain ⟨e, rfl, hd'⟩ := succ_of (n := 4) hd
 have ce := c_esc (μ := μ) (D := e) hs ha (Nat.le_trans (by decide) hd')
 rw [he] at ce
 have hx := ha.ix (μ := μ)
 have c27 : evCall fnTab (e + 1) 27 [.ref st, .str s, .int (n : Nat), .bool false] μ = .exc μ := by
   refine (evCall_succ rfl).trans (run_fn rfl ?_)
   generalize evCall fnTab e = Φ at ce
   simp [f_take_piece, hx, ce, escK]
 exact ⟨_, pb_piece hx (ha.slice hs.1 1 2 (by decide) (by decide)) (fun _ => by
   cases r with
   | nil => exact .inl rfl
   | cons c r => exact .inr ⟨c, rfl, esc_none he⟩) c27 rfl⟩
theorem c_parts_exc {D : Nat} (hD : 95 ≤ D) {s : List Nat} {μ : Mem} (hs : Okt s) (hp : Refuse s) :
   ∃ μ', evCall fnTab D 28 [.str s, .bool false] μ = .exc μ' ∧ Keep μ.length μ μ' := by
 obtain ⟨d, rfl, hd⟩ := succ_of (n := 94) hD
 obtain ⟨k, T, r, g, hc⟩ := hp
 obtain ⟨n1, y1, p1, μ1, a1, a2, a3, a4, _⟩ := po_all (μ := μ) hd hs g
 obtain ⟨l', hb⟩ := parts_exc (x := y1) (μ := μ1) (st := μ.length + 1) (Nat.le_trans (by decide) hd) hs a2.at hc
 exact ⟨μ1, (evCall_succ rfl).trans (run_fn rfl (po_exc (a1.trans ((po_turn a2.at.lt hb).trans rfl)))), (keep0 μ).trans a4⟩
theorem c_plain_exc {D : Nat} (hD : 96 ≤ D) {s : List Nat} {μ : Mem} (hs : Okt s) (hp : Refuse s) :
   ∃ μ', evCall fnTab D 29 [.str s] μ = .exc μ' ∧ Keep μ.length μ μ' := by
 obtain ⟨d, rfl, hd⟩ := succ_of (n := 95) hD
 obtain ⟨μ', h1, h2⟩ := c_parts_exc (D := d) hd (μ := μ) hs hp
 refine ⟨μ', (evCall_succ rfl).trans (run_fn rfl ?_), h2⟩
 generalize evCall fnTab d = Φ at h1
 simp [f_plain_qq, h1]
noncomputable def joinStep : List Part → Part → List Part
 | .text u :: q, .text t => .text (u ++ t) :: q
 | q, p => p :: q
noncomputable def szp : Part → Nat
 | .text t => 1 + t.length
 | .expr t => 1 + t.length
 | .case _ _ => 1
noncomputable def sz (q : List Part) : Nat := (q.map szp).sum
theorem sz_nil : sz [] = 0 := rfl
theorem sz_cons (p : Part) (q : List Part) : sz (p :: q) = szp p + sz q := by simp [sz]
theorem sz_app (a b : List Part) : sz (a ++ b) = sz a + sz b := by simp [sz]
theorem szp_pos (p : Part) : 1 ≤ szp p := by cases p <;> simp [szp]
theorem sz_len : ∀ q : List Part, q.length ≤ sz q
 | [] => by simp [sz]
 | p :: q => by have := sz_len q; have := szp_pos p; rw [sz_cons]; simp; lia
theorem join_sz (q : List Part) (p : Part) : sz (joinStep q p) ≤ sz q + szp p := by
 unfold joinStep
 split
 · simp only [sz_cons, szp, List.length_append]; lia
 · simp only [sz_cons]; lia
theorem add_join {q : List Part} {p : Part} (h : sz q + szp p ≤ 100000) : addTo q p = some (joinStep q p) := by
 have hl := sz_len q
 have hp := szp_pos p
 cases p with
 | text t =>
   simp only [szp] at h
   cases q with
   | nil => simp [addTo, joinStep]; lia
   | cons x q =>
     cases x with
     | text u => simp only [sz_cons, szp] at h; simp only [addTo, joinStep]; rw [if_pos (by lia)]
     | expr u => simp only [addTo, joinStep]; rw [if_pos ⟨by lia, by lia⟩]
     | case m u => simp only [addTo, joinStep]; rw [if_pos ⟨by lia, by lia⟩]
 | expr t =>
   have e : addTo q (.expr t) = if q.length < 100000 then some (.expr t :: q) else none := by
     cases q with
     | nil => rfl
     | cons x q => cases x <;> rfl
   have e2 : joinStep q (.expr t) = .expr t :: q := by
     cases q with
     | nil => rfl
     | cons x q => cases x <;> rfl
   rw [e, e2, if_pos (by lia)]
 | case m t =>
   have e : addTo q (.case m t) = if q.length < 100000 then some (.case m t :: q) else none := by
     cases q with
     | nil => rfl
     | cons x q => cases x <;> rfl
   have e2 : joinStep q (.case m t) = .case m t :: q := by
     cases q with
     | nil => rfl
     | cons x q => cases x <;> rfl
   rw [e, e2, if_pos (by lia)]
theorem join_join (q : List Part) (a b : List Nat) : joinStep (joinStep q (.text a)) (.text b) = joinStep q (.text (a ++ b)) := by
 cases q with
 | nil => rfl
 | cons x q => cases x <;> simp [joinStep]
noncomputable abbrev joins (q ps : List Part) : List Part := ps.foldl joinStep q
theorem joins_sz : ∀ (ps q : List Part), sz (joins q ps) ≤ sz q + sz ps
 | [], q => by simp [sz]
 | p :: ps, q => by
   have h1 := join_sz q p
   have h2 := joins_sz ps (joinStep q p)
   rw [sz_cons]
   simp only [joins, List.foldl_cons] at h2 ⊢
   lia
noncomputable def Walk (pat : Bool) (t : List Nat) (ps : List Part) : Prop := ∀ q r, 2 * (sz q + sz ps) ≤ 100000 → Go 50 pat [([], q)] (t ++ r) [([], joins q ps)] r
noncomputable def Run (pat : Bool) (m : List Nat) (T : List Ent) (t : List Nat) (q q' : List Part) (r : List Nat) : Prop := Go 50 pat ((m, q) :: T) (t ++ r) ((m, q') :: T) r
theorem add_plain {m : List Nat} {q : List Part} {T : List Ent} {p : Part} (h : sz q + szp p ≤ 100000) (hm : (isText p && short m) = false) : addPart ((m, q) :: T) p = some ((m, joinStep q p) :: T) := by
 rw [addPart_eq, add_join h]
 dsimp only
 rw [if_neg (by simp [hm])]
theorem turn_char {pat : Bool} {c : Nat} {r : List Nat} {m : List Nat} {q : List Part} {T : List Ent} (hc : c ≠ 36 ∧ c ≠ 64 ∧ c ≠ 92) (h : sz q + 2 ≤ 100000) (hm : short m = false) : turnP 50 pat ((m, q) :: T) (c :: r) = some ((m, joinStep q (.text [c])) :: T, 1) := by
 unfold turnP
 dsimp only
 rw [if_neg (by simp [hc.2.2])]
 unfold takePiece
 dsimp only
 rw [if_neg hc.2.2, show sigLen pat c r = 0 from (if_neg hc.1).trans (if_neg hc.2.1), if_neg (by decide), add_plain (by simpa [szp] using h) (by simp [hm])]
 rfl
noncomputable def plain (w : List Nat) : Prop := ∀ c ∈ w, c ≠ 36 ∧ c ≠ 64 ∧ c ≠ 92
theorem go_chars {pat : Bool} {m : List Nat} {T : List Ent} {r : List Nat} (hm : short m = false) (hT : T.length ≤ 40) : ∀ (w : List Nat) (q : List Part), plain w → w ≠ [] → sz q + 2 * w.length ≤ 100000 → Go 50 pat ((m, q) :: T) (w ++ r) ((m, joinStep q (.text w)) :: T) r
 | [], _, _, h, _ => absurd rfl h
 | [c], q, hp, _, hs => by
   have t1 := turn_char (pat := pat) (c := c) (r := r) (T := T) (q := q) (hp c (by simp)) (by simpa using hs) hm
   exact .step t1 (by simp only [List.length_cons]; lia) (by simp) .refl
 | c :: d :: w, q, hp, _, hs => by
   simp only [List.length_cons] at hs
   have ih := go_chars hm hT (pat := pat) (r := r) (d :: w) (joinStep q (.text [c])) (fun x hx => hp x (.tail _ hx)) (by simp) (by
     have : sz (joinStep q (.text [c])) ≤ sz q + 2 := join_sz q (.text [c])
     simp only [List.length_cons]
     lia)
   rw [join_join] at ih
   have t1 := turn_char (pat := pat) (c := c) (r := (d :: w) ++ r) (T := T) (q := q) (hp c (by simp)) (by lia) hm
   exact .step t1 (by simp only [List.length_cons]; lia) (by simp) ih
theorem word_iff (c : Nat) : word c = true ↔ (97 ≤ c ∧ c ≤ 122) ∨ (65 ≤ c ∧ c ≤ 90) ∨ (48 ≤ c ∧ c ≤ 57) ∨ c = 95 := by
 unfold word digit
 simp [or_assoc]
theorem digit_iff (c : Nat) : digit c = true ↔ 48 ≤ c ∧ c ≤ 57 := by
 unfold digit
 simp
structure Title (t : List Nat) : Prop where
 st : start t = true
 word : ∀ c ∈ t, Mine.word c = true
 len : t.length ≤ 3
theorem Title.cons {t : List Nat} (h : Title t) : ∃ x t', t = x :: t' ∧ ((97 ≤ x ∧ x ≤ 122) ∨ (65 ≤ x ∧ x ≤ 90) ∨ x = 95) := by
 cases t with
 | nil => have := h.st; simp [start] at this
 | cons x t =>
   refine ⟨x, t, rfl, ?_⟩
   have h1 := h.st
   simp only [start, Bool.and_eq_true, Bool.not_eq_true'] at h1
   have h2 := (word_iff x).mp h1.1
   have h3 : ¬ digit x = true := by rw [h1.2]; simp
   rw [digit_iff] at h3
   lia
theorem Title.plain {t : List Nat} (h : Title t) : plain t := fun c hc => by
 have := (word_iff c).mp (h.word c hc)
 lia
theorem Title.ne {t : List Nat} (h : Title t) : t ≠ [] := by
 obtain ⟨x, t', rfl, _⟩ := h.cons
 simp
theorem nb_word {c : Nat} (h : word c = true) (r : List Nat) : nameBody (c :: r) = nameBody r + 1 := by
 cases r with
 | nil => simp [nameBody, h]
 | cons d r => simp [nameBody, h]
theorem nb_app : ∀ (t r : List Nat), (∀ c ∈ t, word c = true) → nameBody (t ++ r) = t.length + nameBody r
 | [], r, _ => by simp
 | c :: t, r, h => by
   have ih := nb_app t r (fun x hx => h x (.tail _ hx))
   rw [List.cons_append, nb_word (h c (.head _)), ih]
   simp; lia
theorem nb_stop {c : Nat} (h : word c = false) (hc : c ≠ 58) (r : List Nat) : nameBody (c :: r) = 0 := by
 cases r with
 | nil => simp [nameBody, h]
 | cons d r => simp [nameBody, h, hc]
theorem name_title {t : List Nat} (h : Title t) (r : List Nat) : nameLen (t ++ r) = t.length + nameBody r := by
 have h1 := nb_app t r h.word
 have hs := h.st
 obtain ⟨x, t', rfl, hx⟩ := h.cons
 unfold nameLen
 have h58 : ¬ ((x :: t' ++ r).take 2 = [58, 58] ∧ start ((x :: t' ++ r).drop 2) = true) := by
   rintro ⟨z, _⟩
   cases hh : (t' ++ r) with
   | nil => simp [hh] at z
   | cons y r => simp [hh] at z; lia
 rw [if_neg h58]
 have hs' : start (x :: t' ++ r) = true := hs
 simp only [List.drop_zero, hs', if_pos]
 simpa using h1
theorem base_title {t : List Nat} (h : Title t) (r : List Nat) : baseLen (t ++ r) = t.length + nameBody r := by
 have h1 := name_title h r
 obtain ⟨x, t', rfl, hx⟩ := h.cons
 have e36 : x ≠ 36 := by lia
 have e123 : x ≠ 123 := by lia
 unfold baseLen
 have e : dollars (x :: t' ++ r) = 0 := by simp [dollars, e36]
 simp only [e, List.drop_zero]
 simp only [List.cons_append] at h1 ⊢
 rw [if_neg e123, h1]
 simp
theorem scalar_title {pat : Bool} {t : List Nat} (h : Title t) (r : List Nat) : scalarLen pat (t ++ r) = 1 + (t.length + nameBody r) + allLen pat (r.drop (nameBody r)) := by
 have h1 := base_title h r
 have hd : (t ++ r).drop (t.length + nameBody r) = r.drop (nameBody r) := by rw [List.drop_append]; simp
 have hn := h.ne
 obtain ⟨x, t', rfl, hx⟩ := h.cons
 unfold scalarLen
 simp only [List.cons_append] at h1 hd ⊢
 have n1 : ¬ (pat && (decide (x = 41) || decide (x = 124))) = true := by simp; intro _; lia
 have n2 : x ≠ 35 := by lia
 have n3 : ¬ digit x = true := by rw [digit_iff]; lia
 have n4 : x ≠ 123 := by lia
 rw [if_neg n1, if_neg n2, if_neg n3, h1, if_pos (by simp; lia), hd]
 have b : braced (x :: (t' ++ r)) ((x :: t').length + nameBody r) = false := by simp [braced, n4]
 rw [b]
 simp
theorem array_title {pat : Bool} {t : List Nat} (h : Title t) (r : List Nat) : arrayLen pat (t ++ r) = 1 + (t.length + nameBody r) + oneLen pat (r.drop (nameBody r)) := by
 have h1 := base_title h r
 have hd : (t ++ r).drop (t.length + nameBody r) = r.drop (nameBody r) := by rw [List.drop_append]; simp
 obtain ⟨x, t', rfl, hx⟩ := h.cons
 unfold arrayLen
 have n4 : x ≠ 123 := by lia
 have b : braced (x :: t' ++ r) ((x :: t').length + nameBody r) = false := by simp [braced, n4]
 rw [h1, if_neg (by simp), b, hd]
 simp
theorem one_no {pat : Bool} {c : Nat} {r : List Nat} (h1 : c ≠ 91) (h2 : c ≠ 123) : oneLen pat (c :: r) = 0 := by simp [oneLen, h1, h2]
theorem all_no {pat : Bool} {c : Nat} {r : List Nat} (h1 : c ≠ 91) (h2 : c ≠ 123) (h3 : c ≠ 45) : allLen pat (c :: r) = 0 := by
 rw [allLen_eq]
 have : arrow (c :: r) = 0 := by
   unfold arrow
   rw [if_neg]
   cases r <;> simp [h3]
 rw [this, List.drop_zero, one_no h1 h2]
 rfl
theorem all_title {pat : Bool} {t : List Nat} (h : Title t) (r : List Nat) : allLen pat (t ++ r) = 0 := by
 obtain ⟨x, t', rfl, hx⟩ := h.cons
 exact all_no (by lia) (by lia) (by lia)
structure W (pat : Bool) (m : List Nat) (T : List Ent) (n : Nat) (t : List Nat) (ps : List Part) (r : List Nat) : Prop where
 le : sz ps ≤ n
 go : ∀ q, sz q + n ≤ 50000 → Go 50 pat ((m, q) :: T) (t ++ r) ((m, joins q ps) :: T) r
theorem W.app {pat : Bool} {m : List Nat} {T : List Ent} {n n' : Nat} {t u : List Nat} {a b : List Part} {r : List Nat} (h : W pat m T n t a (u ++ r)) (g : W pat m T n' u b r) : W pat m T (n + n') (t ++ u) (a ++ b) r := by
 have l1 := h.le
 have l2 := g.le
 refine ⟨by rw [sz_app]; lia, fun q hq => ?_⟩
 have h1 := h.go q (by lia)
 have h2 := g.go (joins q a) (by have := joins_sz a q; lia)
 rw [List.append_assoc]
 have := h1.trans h2
 simpa [joins, List.foldl_append] using this
theorem W.mono {pat : Bool} {m : List Nat} {T : List Ent} {n n' : Nat} {t : List Nat} {a : List Part} {r : List Nat} (h : W pat m T n t a r) (hn : n ≤ n') : W pat m T n' t a r := by
 have l1 := h.le
 exact ⟨by lia, fun q hq => h.go q (by lia)⟩
theorem W.conv {pat : Bool} {m : List Nat} {T : List Ent} {n : Nat} {t t' : List Nat} {a b : List Part} {r : List Nat} (h : W pat m T n t a r) (ht : t = t') (hb : ∀ q, joins q a = joins q b) (hs : sz b ≤ sz a) : W pat m T n t' b r := by
 subst ht
 have l1 := h.le
 exact ⟨by lia, fun q hq => by rw [← hb]; exact h.go q hq⟩
section
variable {pat : Bool} {m : List Nat} {T : List Ent} {r : List Nat} (hm : short m = false) (hT : T.length ≤ 10)
include hT
theorem W.expr {x : List Nat} (h : scalarLen pat (x ++ r) = 1 + x.length) : W pat m T (x.length + 2) (36 :: x) [.expr (36 :: x)] r := by
 refine ⟨by simp [sz, szp]; lia, fun q hq => ?_⟩
 have hadd := add_plain (m := m) (T := T) (q := q) (p := .expr (36 :: x)) (by simp [szp]; lia) (by simp [isText])
 show Go 50 pat _ (36 :: (x ++ r)) _ _
 refine .step (T1 := (m, joinStep q (.expr (36 :: x))) :: T) (m := x.length + 1) ?_ (by simp only [List.length_cons]; lia) (by simp) ?_
 · unfold turnP
   dsimp only
   rw [if_neg (by simp)]
   unfold takePiece
   dsimp only
   rw [if_neg (by decide : ¬ (36 : Nat) = 92), show ∀ r, sigLen pat 36 r = scalarLen pat r from fun _ => rfl, h, if_pos (by lia)]
   have e : (36 :: (x ++ r)).take (1 + x.length) = 36 :: x := by
     rw [show 1 + x.length = x.length + 1 from Nat.add_comm _ _, List.take_succ_cons]; simp
   rw [e, hadd]
   simp [Nat.add_comm]
 · have e : (36 :: (x ++ r)).drop (x.length + 1) = r := by simp
   show Go 50 pat _ ((36 :: (x ++ r)).drop (x.length + 1)) _ _
   rw [e]
   exact .refl
theorem W.arr {x : List Nat} (h : arrayLen pat (x ++ r) = 1 + x.length) : W pat m T (x.length + 2) (64 :: x) [.expr (64 :: x)] r := by
 refine ⟨by simp [sz, szp]; lia, fun q hq => ?_⟩
 have hadd := add_plain (m := m) (T := T) (q := q) (p := .expr (64 :: x)) (by simp [szp]; lia) (by simp [isText])
 show Go 50 pat _ (64 :: (x ++ r)) _ _
 refine .step (T1 := (m, joinStep q (.expr (64 :: x))) :: T) (m := x.length + 1) ?_ (by simp only [List.length_cons]; lia) (by simp) ?_
 · unfold turnP
   dsimp only
   rw [if_neg (by simp)]
   unfold takePiece
   dsimp only
   rw [if_neg (by decide : ¬ (64 : Nat) = 92), show ∀ r, sigLen pat 64 r = arrayLen pat r from fun _ => rfl, h, if_pos (by lia)]
   have e : (64 :: (x ++ r)).take (1 + x.length) = 64 :: x := by
     rw [show 1 + x.length = x.length + 1 from Nat.add_comm _ _, List.take_succ_cons]; simp
   rw [e, hadd]
   simp [Nat.add_comm]
 · have e : (64 :: (x ++ r)).drop (x.length + 1) = r := by simp
   show Go 50 pat _ ((64 :: (x ++ r)).drop (x.length + 1)) _ _
   rw [e]
   exact .refl
include hm
theorem W.text {w : List Nat} (hw : plain w) (h0 : w ≠ []) : W pat m T (2 * w.length) w [.text w] r := by
 refine ⟨?_, fun q hq => ?_⟩
 · have : 0 < w.length := List.length_pos_iff.mpr h0
   simp [sz, szp]; lia
 · exact go_chars hm (by lia) w q hw h0 (by lia)
theorem W.dollar (h : scalarLen pat r = 0) : W pat m T 2 [36] [.text [36]] r := by
 refine ⟨by simp [sz, szp], fun q hq => ?_⟩
 have hadd := add_plain (m := m) (T := T) (q := q) (p := .text [36]) (by simp [szp]; lia) (by simp [hm])
 show Go 50 pat _ (36 :: r) _ _
 refine .step (T1 := (m, joinStep q (.text [36])) :: T) (m := 1) ?_ (by simp only [List.length_cons]; lia) (by simp) ?_
 · unfold turnP
   dsimp only
   rw [if_neg (by simp)]
   unfold takePiece
   dsimp only
   rw [if_neg (by decide : ¬ (36 : Nat) = 92), show ∀ r, sigLen pat 36 r = scalarLen pat r from fun _ => rfl, h, if_neg (by lia), hadd]
   rfl
 · exact .refl
theorem W.at (h : arrayLen pat r = 0) : W pat m T 2 [64] [.text [64]] r := by
 refine ⟨by simp [sz, szp], fun q hq => ?_⟩
 have hadd := add_plain (m := m) (T := T) (q := q) (p := .text [64]) (by simp [szp]; lia) (by simp [hm])
 show Go 50 pat _ (64 :: r) _ _
 refine .step (T1 := (m, joinStep q (.text [64])) :: T) (m := 1) ?_ (by simp only [List.length_cons]; lia) (by simp) ?_
 · unfold turnP
   dsimp only
   rw [if_neg (by simp)]
   unfold takePiece
   dsimp only
   rw [if_neg (by decide : ¬ (64 : Nat) = 92), show ∀ r, sigLen pat 64 r = arrayLen pat r from fun _ => rfl, h, if_neg (by lia), hadd]
   rfl
 · exact .refl
end
theorem W.esc {m : List Nat} {T : List Ent} {r : List Nat} (hm : short m = false) (hT : T.length ≤ 10) {x t : List Nat} (h : esc (x ++ r) = some (t, 1 + x.length)) (ht : t.length ≤ 3) (hn : x = [] → r = []) (hx : [85, 76, 70, 81, 117, 108, 69].contains (x.headD 0) = false) : W false m T 4 (92 :: x) [.text t] r := by
 refine ⟨by simp [sz, szp]; lia, fun q hq => ?_⟩
 have hadd := add_plain (m := m) (T := T) (q := q) (p := .text t) (by simp [szp]; lia) (by simp [hm])
 show Go 50 false _ (92 :: (x ++ r)) _ _
 refine .step (T1 := (m, joinStep q (.text t)) :: T) (m := 1 + x.length) ?_ (by simp only [List.length_cons]; lia) (by simp) ?_
 · unfold turnP
   dsimp only
   rw [if_neg (by
     cases x with
     | nil => simp [hn rfl]
     | cons c x => simp at hx ⊢; exact hx)]
   unfold takePiece
   dsimp only
   rw [if_pos rfl, if_neg (by decide), h]
   show (addPart _ (.text t)).map _ = _
   rw [hadd]
   rfl
 · have e : (92 :: (x ++ r)).drop (1 + x.length) = r := by rw [Nat.add_comm]; simp
   show Go 50 false _ ((92 :: (x ++ r)).drop (1 + x.length)) _ _
   rw [e]
   exact .refl
theorem W.pesc {m : List Nat} {T : List Ent} {r : List Nat} (hm : short m = false) (hT : T.length ≤ 10) {c : Nat} (hx : [85, 76, 70, 81, 117, 108, 69].contains c = false) : W true m T 4 [92, c] [.text [92, c]] r := by
 refine ⟨by simp [sz, szp], fun q hq => ?_⟩
 have hadd := add_plain (m := m) (T := T) (q := q) (p := .text [92, c]) (by simp [szp]; lia) (by simp [hm])
 show Go 50 true _ (92 :: c :: r) _ _
 refine .step (T1 := (m, joinStep q (.text [92, c])) :: T) (m := 2) ?_ (by simp only [List.length_cons]; lia) (by simp) ?_
 · unfold turnP
   dsimp only
   rw [if_neg (by simp at hx ⊢; exact hx)]
   unfold takePiece
   dsimp only
   rw [if_pos rfl, if_pos rfl]
   have e : (92 :: c :: r).take 2 = [92, c] := rfl
   rw [e, hadd]
   rfl
 · exact .refl
noncomputable abbrev B (n : Nat) (t : List Nat) (ps : List Part) (r : List Nat) : Prop := W false [] [] n t ps r
theorem bT {n : Nat} {w : List Nat} {r : List Nat} (hw : plain w) (h0 : w ≠ []) (hn : 2 * w.length ≤ n) : B n w [.text w] r := (W.text rfl (by simp) hw h0).mono hn
theorem bE {n : Nat} {x : List Nat} {r : List Nat} (h : scalarLen false (x ++ r) = 1 + x.length) (hn : x.length + 2 ≤ n) : B n (36 :: x) [.expr (36 :: x)] r := (W.expr (by simp) h).mono hn
theorem bA {n : Nat} {x : List Nat} {r : List Nat} (h : arrayLen false (x ++ r) = 1 + x.length) (hn : x.length + 2 ≤ n) : B n (64 :: x) [.expr (64 :: x)] r := (W.arr (by simp) h).mono hn
theorem bD {r : List Nat} (h : scalarLen false r = 0) : B 2 [36] [.text [36]] r := W.dollar rfl (by simp) h
theorem bS {r : List Nat} (h : arrayLen false r = 0) : B 2 [64] [.text [64]] r := W.at rfl (by simp) h
theorem bTT {n : Nat} {t u v : List Nat} {r : List Nat} (h : B n t [.text u, .text v] r) : B n t [.text (u ++ v)] r :=
 W.conv h rfl (fun q => by simp [joins, join_join]) (by simp [sz, szp]; lia)
theorem plain_dec {w : List Nat} (h : (w.all fun c => decide (c ≠ 36 ∧ c ≠ 64 ∧ c ≠ 92)) = true) : plain w := fun c hc => by
 have := List.all_eq_true.mp h c hc
 simpa using this
theorem plain_app {u v : List Nat} (h : plain u) (g : plain v) : plain (u ++ v) := fun c hc => by
 rcases List.mem_append.mp hc with q | q
 · exact h c q
 · exact g c q
theorem scalar_punct {s : Nat} (h : s ∈ [38, 44, 59, 33, 64, 47, 34]) (r : List Nat) : scalarLen false (s :: r) = 2 + allLen false r := by
 simp only [List.mem_cons, List.not_mem_nil, or_false] at h
 rcases h with rfl | rfl | rfl | rfl | rfl | rfl | rfl <;> rfl
theorem way0 {t r : List Nat} (h : Title t) {s : Nat} (hs : s ∈ [38, 44, 59, 33, 64, 47, 34]) : B 20 ([36, s] ++ t) [.expr [36, s], .text t] (46 :: r) := by
 have hl := h.len
 refine (W.app (n := 4) (n' := 6) (bE (x := [s]) ?_ (by simp)) (bT h.plain h.ne (by lia))).mono (by lia)
 show scalarLen false (s :: (t ++ 46 :: r)) = _
 rw [scalar_punct hs, all_title h]
 rfl
theorem way1 {t r d : List Nat} (h : Title t) (hd : ∀ c ∈ d, digit c = true) (h1 : d ≠ []) (hl' : d.length ≤ 2) : B 20 ([36, 48] ++ (d ++ t)) [.expr [36, 48], .text (d ++ t)] (46 :: r) := by
 have hl := h.len
 refine (W.app (n := 4) (n' := 10) (bE (x := [48]) ?_ (by simp)) (bT (plain_app (fun c hc => ?_) h.plain) (by simp [h1]) (by simp; lia))).mono (by lia)
 · show scalarLen false (48 :: ((d ++ t) ++ 46 :: r)) = _
   have : allLen false ((d ++ t) ++ 46 :: r) = 0 := by
     cases d with
     | nil => exact absurd rfl h1
     | cons c d =>
       have := (digit_iff c).mp (hd c (by simp))
       exact all_no (by lia) (by lia) (by lia)
   have e : scalarLen false (48 :: ((d ++ t) ++ 46 :: r)) = 2 + allLen false ((d ++ t) ++ 46 :: r) := by
     unfold scalarLen
     simp [digit]
   rw [e, this]
   rfl
 · have := (digit_iff c).mp (hd c hc)
   lia
inductive Nothing (t : List Nat) : List Nat → Prop
 | a : Nothing t [36, 35, 32]
 | b : Nothing t [36, 58, 58]
 | c : Nothing t [36, 36, 32]
 | d : Nothing t [36, 35, 91, 48, 93]
 | e : Nothing t ([36, 32] ++ t)
 | f : Nothing t [36, 41]
 | g : Nothing t [36, 37]
 | h : Nothing t [64, 45]
 | i : Nothing t ([64, 32] ++ t)
 | j : Nothing t [64, 49]
 | k : Nothing t [64, 58, 58]
 | l : Nothing t [36, 94, 87]
 | m : Nothing t [36, 62]
theorem bDT {n : Nat} {w r : List Nat} (hw : plain w) (h0 : w ≠ []) (h : scalarLen false (w ++ r) = 0) (hn : 2 + 2 * w.length ≤ n) : B n ([36] ++ w) [.text ([36] ++ w)] r :=
 bTT ((W.app (bD h) (bT hw h0 (Nat.le_refl _))).mono hn)
theorem bST {n : Nat} {w r : List Nat} (hw : plain w) (h0 : w ≠ []) (h : arrayLen false (w ++ r) = 0) (hn : 2 + 2 * w.length ≤ n) : B n ([64] ++ w) [.text ([64] ++ w)] r :=
 bTT ((W.app (bS h) (bT hw h0 (Nat.le_refl _))).mono hn)
theorem way2 {t x r : List Nat} (h : Title t) (hx : Nothing t x) : B 20 x [.text x] (46 :: r) := by
 have hl := h.len
 cases hx with
 | a => exact bDT (w := [35, 32]) (plain_dec rfl) (List.cons_ne_nil _ _) rfl (by decide)
 | b => exact bDT (w := [58, 58]) (plain_dec rfl) (List.cons_ne_nil _ _) rfl (by decide)
 | c =>
   have h1 : B 6 [36, 32] [.text [36, 32]] (46 :: r) := bDT (w := [32]) (plain_dec rfl) (List.cons_ne_nil _ _) rfl (by decide)
   exact (bTT (W.app (bD rfl) h1)).mono (by decide)
 | d => exact bDT (w := [35, 91, 48, 93]) (plain_dec rfl) (List.cons_ne_nil _ _) rfl (by decide)
 | e => exact bDT (w := 32 :: t) (plain_app (u := [32]) (plain_dec rfl) h.plain) (List.cons_ne_nil _ _) rfl (by simp; lia)
 | f => exact bDT (w := [41]) (plain_dec rfl) (List.cons_ne_nil _ _) rfl (by decide)
 | g => exact bDT (w := [37]) (plain_dec rfl) (List.cons_ne_nil _ _) rfl (by decide)
 | h => exact bST (w := [45]) (plain_dec rfl) (List.cons_ne_nil _ _) rfl (by decide)
 | i => exact bST (w := 32 :: t) (plain_app (u := [32]) (plain_dec rfl) h.plain) (List.cons_ne_nil _ _) rfl (by simp; lia)
 | j => exact bST (w := [49]) (plain_dec rfl) (List.cons_ne_nil _ _) rfl (by decide)
 | k => exact bST (w := [58, 58]) (plain_dec rfl) (List.cons_ne_nil _ _) rfl (by decide)
 | l => exact bDT (w := [94, 87]) (plain_dec rfl) (List.cons_ne_nil _ _) rfl (by decide)
 | m => exact bDT (w := [62]) (plain_dec rfl) (List.cons_ne_nil _ _) rfl (by decide)
theorem all_step {pat : Bool} {l : List Nat} {k m n : Nat} (h1 : arrow l = k) (h2 : oneLen (pat && decide (k = 0)) (l.drop k) = m) (h3 : m ≠ 0) (h4 : allLen pat (l.drop (k + m)) = n) : allLen pat l = k + m + n := by
 rw [allLen_eq, h1, h2, if_neg h3, h4]
theorem all_stop {pat : Bool} {l : List Nat} {k : Nat} (h1 : arrow l = k) (h2 : oneLen (pat && decide (k = 0)) (l.drop k) = 0) : allLen pat l = 0 := by
 rw [allLen_eq, h1, h2, if_pos rfl]
theorem close1 : closer 91 = 93 := rfl
theorem close2 : closer 123 = 125 := rfl
inductive Empty : List Nat → Prop
 | a : Empty [91, 93]
 | b : Empty [123, 125]
 | c : Empty [91, 32, 93]
 | d : Empty [123, 32, 9, 125]
 | e : Empty [91, 10, 93]
theorem Empty.one {e : List Nat} (h : Empty e) (pat : Bool) (r : List Nat) : oneLen pat (e ++ r) = 0 := by
 cases h <;> rfl
theorem Empty.facts {e : List Nat} (h : Empty e) : plain e ∧ e ≠ [] ∧ e.length ≤ 4 ∧ (∀ r, arrow (e ++ r) = 0) ∧ (∀ r, nameBody (e ++ r) = 0) := by
 cases h <;> exact ⟨plain_dec rfl, by simp, by decide, fun r => rfl, fun r => rfl⟩
theorem way3 {t e r : List Nat} (h : Title t) (he : Empty e) : B 20 ([36] ++ t ++ e) [.expr (36 :: t), .text e] (46 :: r) := by
 have hl := h.len
 obtain ⟨f1, f2, f3, f4, f5⟩ := he.facts
 refine (W.app (t := 36 :: t) (n := 5) (n' := 8) (bE (x := t) ?_ (by lia)) (bT f1 f2 (by lia))).mono (by lia)
 rw [scalar_title h, f5, List.drop_zero, all_stop (f4 _) (by rw [List.drop_zero]; exact he.one _ _)]
 rfl
inductive Inner : List Nat → Prop
 | a : Inner [123, 39, 97, 92, 39, 125, 98, 39, 125]
 | b : Inner [91, 34, 93, 34, 93]
 | c : Inner [123, 92, 125, 125]
 | d : Inner [91, 36, 121, 123, 39, 93, 39, 125, 93]
 | e : Inner [123, 97, 125, 123, 98, 125, 45, 62, 91, 49, 93, 91, 50, 93, 45, 62, 123, 99, 125]
theorem one_three {a x b : Nat} (h : (a = 91 ∧ b = 93) ∨ (a = 123 ∧ b = 125)) (hx : x ∈ [97, 98, 99, 49, 50]) (r : List Nat) : oneLen false (a :: x :: b :: r) = 3 := by
 simp only [List.mem_cons, List.not_mem_nil, or_false] at hx
 rcases h with ⟨rfl, rfl⟩ | ⟨rfl, rfl⟩ <;> rcases hx with rfl | rfl | rfl | rfl | rfl <;> rfl
theorem Inner.all {i : List Nat} (h : Inner i) (r : List Nat) : allLen false (i ++ 46 :: r) = i.length := by
 have dot : allLen false (46 :: r) = 0 := all_no (by decide) (by decide) (by decide)
 cases h with
 | a =>
   have h1 : oneLen false ([123, 39, 97, 92, 39, 125, 98, 39, 125] ++ 46 :: r) = 9 := rfl
   exact all_step (pat := false) (l := [123, 39, 97, 92, 39, 125, 98, 39, 125] ++ 46 :: r) (k := 0) (m := 9) rfl h1 (by decide) dot
 | b =>
   have h1 : oneLen false ([91, 34, 93, 34, 93] ++ 46 :: r) = 5 := rfl
   exact all_step (pat := false) (l := [91, 34, 93, 34, 93] ++ 46 :: r) (k := 0) (m := 5) rfl h1 (by decide) dot
 | c =>
   have h1 : oneLen false ([123, 92, 125, 125] ++ 46 :: r) = 4 := rfl
   exact all_step (pat := false) (l := [123, 92, 125, 125] ++ 46 :: r) (k := 0) (m := 4) rfl h1 (by decide) dot
 | d =>
   have h1 : oneLen false ([91, 36, 121, 123, 39, 93, 39, 125, 93] ++ 46 :: r) = 9 := rfl
   exact all_step (pat := false) (l := [91, 36, 121, 123, 39, 93, 39, 125, 93] ++ 46 :: r) (k := 0) (m := 9) rfl h1 (by decide) dot
 | e =>
   have h0 : oneLen false (123 :: 97 :: 125 :: 123 :: 98 :: 125 :: 45 :: 62 :: 91 :: 49 :: 93 :: 91 :: 50 :: 93 :: 45 :: 62 :: 123 :: 99 :: 125 :: 46 :: r) = 3 := one_three (x := 97) (.inr ⟨rfl, rfl⟩) (by simp) (123 :: 98 :: 125 :: 45 :: 62 :: 91 :: 49 :: 93 :: 91 :: 50 :: 93 :: 45 :: 62 :: 123 :: 99 :: 125 :: 46 :: r)
   refine all_step (pat := false) (l := [123, 97, 125, 123, 98, 125, 45, 62, 91, 49, 93, 91, 50, 93, 45, 62, 123, 99, 125] ++ 46 :: r) (k := 0) (m := 3) rfl (by simpa using h0) (by decide) (n := 16) ?_
   have h3 : oneLen false (123 :: 98 :: 125 :: 45 :: 62 :: 91 :: 49 :: 93 :: 91 :: 50 :: 93 :: 45 :: 62 :: 123 :: 99 :: 125 :: 46 :: r) = 3 := one_three (x := 98) (.inr ⟨rfl, rfl⟩) (by simp) (45 :: 62 :: 91 :: 49 :: 93 :: 91 :: 50 :: 93 :: 45 :: 62 :: 123 :: 99 :: 125 :: 46 :: r)
   refine all_step (pat := false) (l := [123, 98, 125, 45, 62, 91, 49, 93, 91, 50, 93, 45, 62, 123, 99, 125] ++ 46 :: r) (k := 0) (m := 3) rfl (by simpa using h3) (by decide) (n := 13) ?_
   have h6 : oneLen false (91 :: 49 :: 93 :: 91 :: 50 :: 93 :: 45 :: 62 :: 123 :: 99 :: 125 :: 46 :: r) = 3 := one_three (x := 49) (.inl ⟨rfl, rfl⟩) (by simp) (91 :: 50 :: 93 :: 45 :: 62 :: 123 :: 99 :: 125 :: 46 :: r)
   refine all_step (pat := false) (l := [45, 62, 91, 49, 93, 91, 50, 93, 45, 62, 123, 99, 125] ++ 46 :: r) (k := 2) (m := 3) rfl (by simpa using h6) (by decide) (n := 8) ?_
   have h11 : oneLen false (91 :: 50 :: 93 :: 45 :: 62 :: 123 :: 99 :: 125 :: 46 :: r) = 3 := one_three (x := 50) (.inl ⟨rfl, rfl⟩) (by simp) (45 :: 62 :: 123 :: 99 :: 125 :: 46 :: r)
   refine all_step (pat := false) (l := [91, 50, 93, 45, 62, 123, 99, 125] ++ 46 :: r) (k := 0) (m := 3) rfl (by simpa using h11) (by decide) (n := 5) ?_
   have h14 : oneLen false (123 :: 99 :: 125 :: 46 :: r) = 3 := one_three (x := 99) (.inr ⟨rfl, rfl⟩) (by simp) (46 :: r)
   exact all_step (pat := false) (l := [45, 62, 123, 99, 125] ++ 46 :: r) (k := 2) (m := 3) rfl (by simpa using h14) (by decide) (n := 0) (by simpa using dot)
theorem Inner.facts {i : List Nat} (h : Inner i) : i.length ≤ 19 ∧ ∀ r, nameBody (i ++ r) = 0 := by
 cases h <;> exact ⟨by decide, fun r => rfl⟩
theorem way4 {t i r : List Nat} (h : Title t) (hi : Inner i) : B 24 ([36] ++ t ++ i) [.expr ([36] ++ t ++ i)] (46 :: r) := by
 have hl := h.len
 obtain ⟨f1, f2⟩ := hi.facts
 refine bE (x := t ++ i) ?_ (by simp; lia)
 rw [List.append_assoc, scalar_title h, f2, List.drop_zero, hi.all]
 simp; lia
theorem way5 {t r : List Nat} (h : Title t) : B 20 ([36] ++ t ++ [58, 58]) [.expr (36 :: t), .text [58, 58]] (46 :: r) := by
 have hl := h.len
 refine (W.app (t := 36 :: t) (n := 5) (n' := 4) (bE (x := t) ?_ (by lia)) (bT (plain_dec rfl) (by simp) (by simp))).mono (by lia)
 have f : nameBody ([58, 58] ++ 46 :: r) = 0 := by simp [nameBody, word, digit, start]
 rw [scalar_title h, f, List.drop_zero]
 rw [show allLen false ([58, 58] ++ 46 :: r) = 0 from all_no (by decide) (by decide) (by decide)]
 rfl
theorem way6 {t r : List Nat} (h : Title t) : B 20 ([64] ++ t ++ [45, 62, 91, 48, 93]) [.expr (64 :: t), .text [45, 62, 91, 48, 93]] (46 :: r) := by
 have hl := h.len
 refine (W.app (t := 64 :: t) (n := 5) (n' := 10) (bA (x := t) ?_ (by lia)) (bT (plain_dec rfl) (by simp) (by simp))).mono (by lia)
 have f : nameBody ([45, 62, 91, 48, 93] ++ 46 :: r) = 0 := by simp [nameBody, word, digit]
 rw [array_title h, f, List.drop_zero]
 rw [show oneLen false ([45, 62, 91, 48, 93] ++ 46 :: r) = 0 from one_no (by decide) (by decide)]
 rfl
theorem base_pack {t : List Nat} (h : Title t) (r : List Nat) : baseLen ([58, 58] ++ (t ++ r)) = 2 + (t.length + nameBody r) := by
 have h1 := nb_app t r h.word
 have hs : start (t ++ r) = true := by
   have := h.st
   obtain ⟨x, t', rfl, hx⟩ := h.cons
   exact this
 have hn : nameLen ([58, 58] ++ (t ++ r)) = 2 + (t.length + nameBody r) := by
   unfold nameLen
   have hc : ([58, 58] ++ (t ++ r)).take 2 = [58, 58] ∧ start (([58, 58] ++ (t ++ r)).drop 2) = true := ⟨rfl, hs⟩
   simp only [if_pos hc]
   have : ([58, 58] ++ (t ++ r)).drop 2 = t ++ r := rfl
   simp only [this, hs, if_pos, h1]
 unfold baseLen
 have e : dollars ([58, 58] ++ (t ++ r)) = 0 := rfl
 simp only [e, List.drop_zero]
 simp only [List.cons_append, List.nil_append] at hn ⊢
 rw [if_neg (by decide), hn]
 simp
theorem way7 {t r : List Nat} (h : Title t) : B 20 ([64, 58, 58] ++ t ++ [91, 49, 93, 123, 50, 125]) [.expr ([64, 58, 58] ++ t ++ [91, 49, 93]), .text [123, 50, 125]] (46 :: r) := by
 have hl := h.len
 have hA : arrayLen false ([58, 58] ++ (t ++ ([91, 49, 93] ++ ([123, 50, 125] ++ 46 :: r)))) = 1 + (2 + (t.length + 3)) := by
   have hb := base_pack h ([91, 49, 93] ++ ([123, 50, 125] ++ 46 :: r))
   have f : nameBody ([91, 49, 93] ++ ([123, 50, 125] ++ 46 :: r)) = 0 := rfl
   rw [f] at hb
   unfold arrayLen
   have b : ∀ m, braced ([58, 58] ++ (t ++ ([91, 49, 93] ++ ([123, 50, 125] ++ 46 :: r)))) m = false := fun m => by simp [braced]
   rw [hb, if_neg (by lia), b]
   have e : ([58, 58] ++ (t ++ ([91, 49, 93] ++ ([123, 50, 125] ++ 46 :: r)))).drop (2 + (t.length + 0)) = [91, 49, 93] ++ ([123, 50, 125] ++ 46 :: r) := by
     rw [← List.drop_drop]
     simp
   rw [e, show oneLen false ([91, 49, 93] ++ ([123, 50, 125] ++ 46 :: r)) = 3 from one_three (.inl ⟨rfl, rfl⟩) (by simp) _]
   simp; lia
 have := (W.app (n := 10) (n' := 6) (r := 46 :: r) (bA (x := [58, 58] ++ t ++ [91, 49, 93]) (by
   simp only [List.append_assoc] at hA ⊢
   rw [hA]
   simp; lia) (by simp; lia)) (bT (w := [123, 50, 125]) (plain_dec rfl) (by simp) (by simp))).mono (n' := 20) (by lia)
 exact W.conv this (by simp) (fun q => by simp) (by simp)
theorem way8 {t r : List Nat} (h : Title t) : B 22 ([36] ++ t ++ [58, 58] ++ t ++ [45, 62, 120]) [.expr ([36] ++ t ++ [58, 58] ++ t), .text [45, 62, 120]] (46 :: r) := by
 have hl := h.len
 have f : nameBody ([58, 58] ++ (t ++ ([45, 62, 120] ++ 46 :: r))) = 2 + t.length := by
   have hs : start (t ++ ([45, 62, 120] ++ 46 :: r)) = true := by
     have := h.st
     obtain ⟨x, t', rfl, hx⟩ := h.cons
     exact this
   have h0 : nameBody ([45, 62, 120] ++ 46 :: r) = 0 := rfl
   have h1 := nb_app t ([45, 62, 120] ++ 46 :: r) h.word
   rw [h0] at h1
   have e : nameBody ([58, 58] ++ (t ++ ([45, 62, 120] ++ 46 :: r))) = nameBody (t ++ ([45, 62, 120] ++ 46 :: r)) + 2 := by
     simp only [List.cons_append, List.nil_append] at hs ⊢
     simp [nameBody, word, digit, hs]
   rw [e, h1]; lia
 have hS : scalarLen false (t ++ ([58, 58] ++ (t ++ ([45, 62, 120] ++ 46 :: r)))) = 1 + (t.length + (2 + t.length)) := by
   rw [scalar_title h, f]
   have e : ([58, 58] ++ (t ++ ([45, 62, 120] ++ 46 :: r))).drop (2 + t.length) = [45, 62, 120] ++ 46 :: r := by
     rw [← List.drop_drop]
     simp
   rw [e, show allLen false ([45, 62, 120] ++ 46 :: r) = 0 from all_stop (k := 2) rfl (one_no (by decide) (by decide))]
   rfl
 have := (W.app (n := 12) (n' := 6) (r := 46 :: r) (bE (x := t ++ [58, 58] ++ t) (by
   simp only [List.append_assoc] at hS ⊢
   rw [hS]
   simp; lia) (by simp; lia)) (bT (w := [45, 62, 120]) (plain_dec rfl) (by simp) (by simp))).mono (n' := 22) (by lia)
 exact W.conv this (by simp) (fun q => by simp) (by simp)
inductive Code : List Nat → List Nat → Prop
 | a : Code [92, 120, 123, 49, 48, 102, 102, 102, 102, 125] [1114111]
 | b : Code [92, 120, 123, 52, 103, 125] [4]
 | c : Code [92, 111, 123, 56, 125] [0]
 | d : Code [92, 120, 123, 48, 48, 48, 48, 48, 48, 52, 49, 125] [65]
 | e : Code [92, 78, 120] [78, 120]
 | f : Code [92, 99, 63] [127]
 | g : Code [92, 99, 122] [26]
 | k : Code [92, 111, 123, 49, 48, 49, 125] [65]
 | i : Code [92, 120, 52, 71] [4, 71]
 | j : Code [92, 49, 48, 49, 56] [65, 56]
theorem bX {x t r : List Nat} (h : esc (x ++ r) = some (t, 1 + x.length)) (ht : t.length ≤ 3) (hn : x ≠ []) (hx : [85, 76, 70, 81, 117, 108, 69].contains (x.headD 0) = false) : B 4 (92 :: x) [.text t] r := W.esc rfl (by simp) h ht (fun z => absurd z hn) hx
theorem way9 {x t r : List Nat} (h : Code x t) : B 20 x [.text t] (46 :: r) := by
 cases h with
 | a => exact (bX (x := [120, 123, 49, 48, 102, 102, 102, 102, 125]) (t := [1114111]) rfl (by decide) (List.cons_ne_nil _ _) rfl).mono (n' := 20) (by decide)
 | b => exact (bX (x := [120, 123, 52, 103, 125]) (t := [4]) rfl (by decide) (List.cons_ne_nil _ _) rfl).mono (n' := 20) (by decide)
 | c => exact (bX (x := [111, 123, 56, 125]) (t := [0]) rfl (by decide) (List.cons_ne_nil _ _) rfl).mono (n' := 20) (by decide)
 | d => exact (bX (x := [120, 123, 48, 48, 48, 48, 48, 48, 52, 49, 125]) (t := [65]) rfl (by decide) (List.cons_ne_nil _ _) rfl).mono (n' := 20) (by decide)
 | e => exact (bTT (W.app (n' := 2) (bX (x := [78]) (t := [78]) rfl (by decide) (List.cons_ne_nil _ _) rfl) (bT (w := [120]) (plain_dec rfl) (List.cons_ne_nil _ _) (by decide)))).mono (n' := 20) (by decide)
 | f => exact (bX (x := [99, 63]) (t := [127]) (by show some ([(Builtin.bitXor ((gr 63 : Nat) : Int) 64).toNat], 3) = _; decide) (by decide) (List.cons_ne_nil _ _) rfl).mono (n' := 20) (by decide)
 | g => exact (bX (x := [99, 122]) (t := [26]) (by show some ([(Builtin.bitXor ((gr 122 : Nat) : Int) 64).toNat], 3) = _; decide) (by decide) (List.cons_ne_nil _ _) rfl).mono (n' := 20) (by decide)
 | k => exact (bX (x := [111, 123, 49, 48, 49, 125]) (t := [65]) rfl (by decide) (List.cons_ne_nil _ _) rfl).mono (n' := 20) (by decide)
 | i => exact (bTT (W.app (n' := 2) (bX (x := [120, 52]) (t := [4]) rfl (by decide) (List.cons_ne_nil _ _) rfl) (bT (w := [71]) (plain_dec rfl) (List.cons_ne_nil _ _) (by decide)))).mono (n' := 20) (by decide)
 | j => exact (bTT (W.app (n' := 2) (bX (x := [49, 48, 49]) (t := [65]) rfl (by decide) (List.cons_ne_nil _ _) rfl) (bT (w := [56]) (plain_dec rfl) (List.cons_ne_nil _ _) (by decide)))).mono (n' := 20) (by decide)
theorem go_case {pat : Bool} {T T1 : List Ent} {c m : Nat} {r : List Nat} (hc : [85, 76, 70, 81, 117, 108, 69].contains c = true) (h : takeCase 50 T (92 :: c :: r) = some (T1, m)) (hl : T1.length ≤ 41) (hn : T1 ≠ []) : Go 50 pat T (92 :: c :: r) T1 ((92 :: c :: r).drop m) := by
 refine .step (T1 := T1) (m := m) ?_ hl hn .refl
 unfold turnP
 dsimp only
 rw [if_pos (by simp at hc ⊢; exact hc)]
 exact h
theorem go_begin {pat : Bool} {T T1 : List Ent} {c : Nat} {r : List Nat} (hc : c ∈ [85, 76, 70, 81, 117, 108]) (h1 : (92 :: c :: r).take 4 ≠ [92, 76, 92, 117]) (h2 : (92 :: c :: r).take 4 ≠ [92, 85, 92, 108]) (h : beginCase 50 T c = some T1) (hl : T1.length ≤ 41) : Go 50 pat T (92 :: c :: r) T1 r := by
 have hn := (beginCase_len h).2
 have : c ≠ 69 := by rintro rfl; simp at hc
 refine go_case (m := 2) ?_ ?_ hl hn
 · have : ∀ c ∈ [85, 76, 70, 81, 117, 108], [85, 76, 70, 81, 117, 108, 69].contains c = true := by decide
   exact this c hc
 · unfold takeCase
   rw [if_neg h1, if_neg h2]
   simp only [List.drop_succ_cons, List.drop_zero, List.headD_cons]
   rw [if_neg this, h]
   rfl
theorem go_end {pat : Bool} {T T1 : List Ent} {r : List Nat} (h : endCase 50 T = some T1) (hl : T1.length ≤ 41) (hn : T1 ≠ []) : Go 50 pat T (92 :: 69 :: r) T1 r := by
 refine go_case (m := 2) rfl ?_ hl hn
 unfold takeCase
 rw [if_neg (by simp), if_neg (by simp)]
 simp only [List.drop_succ_cons, List.drop_zero, List.headD_cons, if_pos, h]
 rfl
theorem go_pair {pat : Bool} {T T1 T2 T3 : List Ent} {x y : Nat} {r : List Nat} (hxy : (x = 117 ∧ y = 76) ∨ (x = 108 ∧ y = 85)) (h1 : endLetters 50 T = some T1) (h2 : beginCase 50 T1 x = some T2) (h3 : beginCase 50 T2 y = some T3) (hl : T3.length ≤ 41) : Go 50 pat T (92 :: y :: 92 :: x :: r) T3 r := by
 have hn := (beginCase_len h3).2
 have hr : (92 :: y :: 92 :: x :: r).drop 4 = r := rfl
 have hc : [85, 76, 70, 81, 117, 108, 69].contains y = true := by rcases hxy with ⟨_, rfl⟩ | ⟨_, rfl⟩ <;> rfl
 have := go_case (pat := pat) (T := T) (T1 := T3) (c := y) (m := 4) (r := 92 :: x :: r) hc (by
   unfold takeCase
   rcases hxy with ⟨rfl, rfl⟩ | ⟨rfl, rfl⟩
   · rw [if_pos (by simp), h1]
     simp [h2, h3]
   · rw [if_neg (by simp), if_pos (by simp), h1]
     simp [h2, h3]) hl hn
 simpa using this
theorem no_pair {c : Nat} {w r : List Nat} {a b : Nat} (hw : plain w) (h0 : w ≠ []) : (92 :: c :: (w ++ r)).take 4 ≠ [92, a, 92, b] := by
 cases w with
 | nil => exact absurd rfl h0
 | cons x w =>
   have := (hw x (by simp)).2.2
   intro h
   simp [List.take] at h
   lia
theorem close_text {c : Nat} {w : List Nat} {m : List Nat} {q : List Part} {T : List Ent} (hm : short m = false) (hw : w.length ≤ 100000) (hb : sz q + 1 + (cased c w).length ≤ 100000) : closeTop (([c], [.text w]) :: (m, q) :: T) = some ((m, joinStep q (.text (cased c w))) :: T) := by
 unfold closeTop
 dsimp only
 rw [if_pos hw]
 exact add_plain (p := .text (cased c w)) (by simp only [szp]; lia) (by simp [hm])
theorem cased_len {c : Nat} (w : List Nat) (h : c = 85 ∨ c = 76 ∨ c = 70 ∨ c = 81) : (cased c w).length ≤ 2 * w.length := by
 unfold cased
 rw [if_neg (by lia), if_neg (by lia)]
 exact caseAll_len c w
theorem end_letters_no (k : Nat) {T : List Ent} (h : (T.any fun e => letter e.1) = false) : endLetters k T = some T := by
 cases k <;> simp only [endLetters, h] <;> rfl
theorem end_letters_one {e : Ent} {T T1 : List Ent} {k : Nat} (h : letter e.1 = true) (hc : closeTop (e :: T) = some T1) (h1 : (T1.any fun e => letter e.1) = false) : endLetters (k + 1) (e :: T) = some T1 := by
 unfold endLetters
 rw [if_pos (by simp [h]), hc, Option.bind_some, end_letters_no k h1]
theorem begin_new {c : Nat} {T : List Ent} (hc : c ∈ [85, 76, 70, 81, 117, 108]) (hT : T.length ≤ 7) (h : (T.any fun e => letter e.1) = false) : beginCase 50 T c = some (([c], []) :: T) := by
 have h8 : (T.filter fun e => e.1 == [81]).length ≤ T.length := List.length_filter_le _ _
 unfold beginCase
 rw [end_letters_no 50 h]
 simp only [ite_self, Option.bind_some]
 rw [if_neg (by lia)]
structure RunW (w : List Nat) : Prop where
 sg : ∀ c ∈ w, 33 ≤ c ∧ c ≤ 126 ∧ c ≠ 36 ∧ c ≠ 64 ∧ c ≠ 92
 ne : w ≠ []
 len : w.length ≤ 4
theorem RunW.plain {w : List Nat} (h : RunW w) : plain w := fun c hc => (h.sg c hc).2.2
noncomputable def guardC (c : Nat) : List Nat := if word c = true then [c] else [92, c]
noncomputable def guard (w : List Nat) : List Nat := w.flatMap guardC
theorem case_guard {w : List Nat} (h : ∀ c ∈ w, c < 128) : cased 81 w = guard w := by
 unfold cased caseAll guard
 rw [if_neg (by decide), if_neg (by decide)]
 induction w with
 | nil => rfl
 | cons c w ih =>
   rw [List.flatMap_cons, List.flatMap_cons, ih (fun x hx => h x (.tail _ hx))]
   congr 1
   have := h c (.head _)
   unfold caseC guardC
   rw [if_neg (by decide), if_pos rfl]
   cases word c <;> simp [this]
theorem case_up (w : List Nat) : cased 85 w = w.map gr := by
 unfold cased caseAll
 rw [if_neg (by decide), if_neg (by decide)]
 induction w with
 | nil => rfl
 | cons c w ih => rw [List.flatMap_cons, ih]; rfl
theorem case_low (w : List Nat) {c : Nat} (h : c = 76 ∨ c = 70) : cased c w = w.map sm := by
 unfold cased caseAll
 rw [if_neg (by lia), if_neg (by lia)]
 induction w with
 | nil => rfl
 | cons x w ih =>
   rw [List.flatMap_cons, ih]
   rcases h with rfl | rfl <;> rfl
theorem in_word {c : Nat} {T : List Ent} {w r : List Nat} (hc : short [c] = false) (hT : T.length ≤ 10) (hw : plain w) (h0 : w ≠ []) (hl : w.length ≤ 1000) : Go 50 false (([c], []) :: T) (w ++ r) (([c], [.text w]) :: T) r := by
 have := go_chars (pat := false) (m := [c]) (T := T) (r := r) hc (by lia) w [] hw h0 (by simp [sz]; lia)
 simpa [joinStep] using this
theorem end_long {m : List Nat} {q : List Part} {T : List Ent} (hm : short m = false) (hT : T ≠ []) : endCase 50 ((m, q) :: T) = closeTop ((m, q) :: T) := by
 have h1 : 1 < ((m, q) :: T).length := by
   have := List.length_pos_iff.mpr hT
   simp; lia
 have e : endShort 50 ((m, q) :: T) = some ((m, q) :: T) := by
   unfold endShort
   rw [if_neg (by simp [hm])]
 unfold endCase
 rw [e, Option.bind_some, if_pos h1]
theorem end_short {m : List Nat} {q : List Part} {T T1 T2 : List Ent} {k : Nat} (hm : short m = true) (hT : T ≠ []) (h : closeTop ((m, q) :: T) = some T1) (h2 : endShort k T1 = some T2) : endShort (k + 1) ((m, q) :: T) = some T2 := by
 have h1 : 1 < ((m, q) :: T).length := by
   have := List.length_pos_iff.mpr hT
   simp; lia
 unfold endShort
 rw [if_pos ⟨h1, by simp [hm]⟩, h, Option.bind_some, h2]
theorem end_short_no {m : List Nat} {q : List Part} {T : List Ent} {k : Nat} (hm : short m = false) : endShort k ((m, q) :: T) = some ((m, q) :: T) := by
 cases k <;> (unfold endShort; rw [if_neg (by simp [hm])])
theorem way10 {w r : List Nat} (h : RunW w) : B 60 ([92, 81] ++ w ++ [92, 69]) [.text (guard w)] (46 :: r) := by
 have hl := h.len
 have hg := case_guard (w := w) (fun c hc => by have := h.sg c hc; lia)
 have hcl := cased_len (c := 81) w (by simp)
 rw [hg] at hcl
 refine ⟨by simp [sz, szp]; lia, fun q hq => ?_⟩
 have e : ([92, 81] ++ w ++ [92, 69]) ++ 46 :: r = 92 :: 81 :: (w ++ 92 :: 69 :: 46 :: r) := by simp
 rw [e]
 refine (go_begin (by simp) (by simp) (by simp) (begin_new (by simp) (by simp) rfl) (by simp)).trans ?_
 refine (in_word rfl (by simp) h.plain h.ne (by lia)).trans ?_
 refine go_end (T1 := [([], joinStep q (.text (guard w)))]) ?_ (by simp) (by simp)
 rw [end_long rfl (by simp), close_text rfl (by lia) (by rw [hg]; lia), hg]
theorem way11 {w t r : List Nat} (h : RunW w) (ht : Title t) : B 60 ([92, 85] ++ w ++ t ++ [92, 76] ++ w ++ t ++ [92, 69] ++ t) [.text ((w ++ t).map gr ++ (w ++ t).map sm ++ t)] (46 :: r) := by
 have hl := h.len
 have htl := ht.len
 have hw : plain (w ++ t) := plain_app h.plain ht.plain
 have h0 : w ++ t ≠ [] := by simp [h.ne]
 have hwl : (w ++ t).length ≤ 7 := by simp; lia
 refine ⟨by simp [sz, szp]; lia, fun q hq => ?_⟩
 have e : ([92, 85] ++ w ++ t ++ [92, 76] ++ w ++ t ++ [92, 69] ++ t) ++ 46 :: r = 92 :: 85 :: ((w ++ t) ++ 92 :: 76 :: ((w ++ t) ++ 92 :: 69 :: (t ++ 46 :: r))) := by simp
 rw [e]
 have j := join_join (joinStep q (.text ((w ++ t).map gr)))
 have s1 := join_sz q (.text ((w ++ t).map gr))
 have s2 := join_sz (joinStep q (.text ((w ++ t).map gr))) (.text ((w ++ t).map sm))
 simp only [szp, List.length_map] at s1 s2
 generalize w ++ t = u at *
 have c1 : closeTop [([85], [.text u]), ([], q)] = some [([], joinStep q (.text (u.map gr)))] := by
   rw [close_text rfl (by lia) (by rw [case_up]; simp; lia), case_up]
 have c2 : closeTop [([76], [.text u]), ([], joinStep q (.text (u.map gr)))] = some [([], joinStep (joinStep q (.text (u.map gr))) (.text (u.map sm)))] := by
   rw [close_text rfl (by lia) (by rw [case_low u (.inl rfl)]; simp; lia), case_low u (.inl rfl)]
 refine (go_begin (by simp) (no_pair hw h0) (no_pair hw h0) (begin_new (by simp) (by simp) rfl) (by simp)).trans ?_
 refine (in_word rfl (by simp) hw h0 (by lia)).trans ?_
 refine (go_begin (T1 := [([76], []), ([], joinStep q (.text (u.map gr)))]) (by simp) (no_pair hw h0) (no_pair hw h0) ?_ (by simp)).trans ?_
 · unfold beginCase
   rw [if_pos (by rfl), end_letters_one rfl c1 rfl, Option.bind_some, if_neg (by simp)]
 refine (in_word rfl (by simp) hw h0 (by lia)).trans ?_
 refine (go_end (T1 := [([], joinStep (joinStep q (.text (u.map gr))) (.text (u.map sm)))]) ?_ (by simp) (by simp)).trans ?_
 · rw [end_long rfl (by simp), c2]
 have := go_chars (pat := false) (m := []) (T := []) (r := 46 :: r) rfl (by simp) t (joinStep (joinStep q (.text (u.map gr))) (.text (u.map sm))) ht.plain ht.ne (by lia)
 rw [join_join, join_join] at this
 rw [join_join]
 exact this
theorem way12 {w t r : List Nat} (h : RunW w) (ht : Title t) : B 60 ([92, 76] ++ w ++ t ++ [92, 117, 92, 69] ++ t) [.text ((w ++ t).map sm ++ t)] (46 :: r) := by
 have hl := h.len
 have htl := ht.len
 have hw : plain (w ++ t) := plain_app h.plain ht.plain
 have h0 : w ++ t ≠ [] := by simp [h.ne]
 have hwl : (w ++ t).length ≤ 7 := by simp; lia
 refine ⟨by simp [sz, szp]; lia, fun q hq => ?_⟩
 have e : ([92, 76] ++ w ++ t ++ [92, 117, 92, 69] ++ t) ++ 46 :: r = 92 :: 76 :: ((w ++ t) ++ 92 :: 117 :: 92 :: 69 :: (t ++ 46 :: r)) := by simp
 rw [e]
 have s1 := join_sz q (.text ((w ++ t).map sm))
 simp only [szp, List.length_map] at s1
 generalize w ++ t = u at *
 have c1 : closeTop [([76], [.text u]), ([], q)] = some [([], joinStep q (.text (u.map sm)))] := by
   rw [close_text rfl (by lia) (by rw [case_low u (.inl rfl)]; simp; lia), case_low u (.inl rfl)]
 refine (go_begin (by simp) (no_pair hw h0) (no_pair hw h0) (begin_new (by simp) (by simp) rfl) (by simp)).trans ?_
 refine (in_word rfl (by simp) hw h0 (by lia)).trans ?_
 refine (go_begin (T1 := [([117], []), ([76], [.text u]), ([], q)]) (by simp) (by simp) (by simp) (by rfl) (by simp)).trans ?_
 refine (go_end (T1 := [([], joinStep q (.text (u.map sm)))]) ?_ (by simp) (by simp)).trans ?_
 · unfold endCase
   rw [end_short (k := 49) (T1 := [([76], [.text u]), ([], q)]) rfl (by simp) rfl (end_short_no rfl), Option.bind_some, if_pos (by simp), c1]
 have := go_chars (pat := false) (m := []) (T := []) (r := 46 :: r) rfl (by simp) t (joinStep q (.text (u.map sm))) ht.plain ht.ne (by lia)
 rw [join_join] at this
 exact this
theorem gr_sm (c : Nat) : gr (sm c) = gr c := by
 unfold gr sm
 repeat' split
 all_goals lia
theorem sm_gr (c : Nat) : sm (gr c) = sm c := by
 unfold gr sm
 repeat' split
 all_goals lia
theorem case_u (x : Nat) (t : List Nat) : cased 117 (x :: t) = gr x :: t := by
 unfold cased
 rw [if_pos rfl]
 simp [caseAll, caseC]
theorem case_l (x : Nat) (t : List Nat) : cased 108 (x :: t) = sm x :: t := by
 unfold cased
 rw [if_neg (by decide), if_pos rfl]
 simp [caseAll, caseC]
theorem close_two {c d : Nat} {w : List Nat} {q : List Part} (hd : short [d] = true) (hw : w.length ≤ 1000) (hc : (cased c w).length ≤ 2000) (h2 : (cased d (cased c w)).length ≤ 4000) (hq : sz q ≤ 50000) : closeTop [([c], [.text w]), ([d], []), ([], q)] = some [([], joinStep q (.text (cased d (cased c w))))] := by
 have e : closeTop [([c], [.text w]), ([d], []), ([], q)] = addPart [([d], []), ([], q)] (.text (cased c w)) := by
   simp only [closeTop]
   rw [if_pos (by lia)]
   rfl
 rw [e, addPart_eq]
 have e2 : addTo [] (.text (cased c w)) = some [.text (cased c w)] := by
   simp only [addTo]
   rw [if_pos ⟨by lia, by simp⟩]
 rw [e2]
 dsimp only
 rw [if_pos (by simp [isText, hd]), close_text rfl (by lia) (by lia)]
theorem way13 {w t r : List Nat} (h : RunW w) (ht : Title t) : B 60 ([92, 85] ++ w ++ [92, 76, 92, 117] ++ t ++ [92, 69] ++ t) [.text (w.map gr ++ (t.take 1).map gr ++ (t.drop 1).map sm ++ t)] (46 :: r) := by
 have hl := h.len
 have htl := ht.len
 refine ⟨by simp [sz, szp]; lia, fun q hq => ?_⟩
 have e : ([92, 85] ++ w ++ [92, 76, 92, 117] ++ t ++ [92, 69] ++ t) ++ 46 :: r = 92 :: 85 :: (w ++ 92 :: 76 :: 92 :: 117 :: (t ++ 92 :: 69 :: (t ++ 46 :: r))) := by simp
 rw [e]
 have s1 := join_sz q (.text (w.map gr))
 simp only [szp, List.length_map] at s1
 have ec : cased 117 (cased 76 t) = (t.take 1).map gr ++ (t.drop 1).map sm := by
   rw [case_low t (.inl rfl)]
   cases t with
   | nil => exact absurd rfl ht.ne
   | cons x t => simp [case_u, gr_sm]
 have el : ((t.take 1).map gr ++ (t.drop 1).map sm).length ≤ 4 := by simp; lia
 have c1 : closeTop [([85], [.text w]), ([], q)] = some [([], joinStep q (.text (w.map gr)))] := by
   rw [close_text rfl (by lia) (by rw [case_up]; simp; lia), case_up]
 have s2 := join_sz (joinStep q (.text (w.map gr))) (.text ((t.take 1).map gr ++ (t.drop 1).map sm))
 simp only [szp] at s2
 have c2 : closeTop [([76], [.text t]), ([117], []), ([], joinStep q (.text (w.map gr)))] = some [([], joinStep (joinStep q (.text (w.map gr))) (.text ((t.take 1).map gr ++ (t.drop 1).map sm)))] := by
   rw [close_two rfl (by lia) (by rw [case_low t (.inl rfl)]; simp; lia) (by rw [ec]; lia) (by lia), ec]
 refine (go_begin (by simp) (no_pair h.plain h.ne) (no_pair h.plain h.ne) (begin_new (by simp) (by simp) rfl) (by simp)).trans ?_
 refine (in_word rfl (by simp) h.plain h.ne (by lia)).trans ?_
 refine (go_pair (.inl ⟨rfl, rfl⟩) (end_letters_one rfl c1 rfl) (begin_new (by simp) (by simp) rfl) (begin_new (by simp) (by simp) rfl) (by simp)).trans ?_
 refine (in_word rfl (by simp) ht.plain ht.ne (by lia)).trans ?_
 refine (go_end (T1 := [([], joinStep (joinStep q (.text (w.map gr))) (.text ((t.take 1).map gr ++ (t.drop 1).map sm)))]) ?_ (by simp) (by simp)).trans ?_
 · rw [end_long rfl (by simp), c2]
 have := go_chars (pat := false) (m := []) (T := []) (r := 46 :: r) rfl (by simp) t (joinStep (joinStep q (.text (w.map gr))) (.text ((t.take 1).map gr ++ (t.drop 1).map sm))) ht.plain ht.ne (by lia)
 rw [join_join, join_join] at this
 rw [join_join]
 simpa [List.append_assoc] using this
theorem way14 {t r : List Nat} (ht : Title t) : B 60 ([92, 70] ++ t ++ [92, 85, 92, 108] ++ t ++ [92, 69]) [.text (t.map sm ++ (t.take 1).map sm ++ (t.drop 1).map gr)] (46 :: r) := by
 have htl := ht.len
 refine ⟨by simp [sz, szp]; lia, fun q hq => ?_⟩
 have e : ([92, 70] ++ t ++ [92, 85, 92, 108] ++ t ++ [92, 69]) ++ 46 :: r = 92 :: 70 :: (t ++ 92 :: 85 :: 92 :: 108 :: (t ++ 92 :: 69 :: 46 :: r)) := by simp
 rw [e]
 have s1 := join_sz q (.text (t.map sm))
 simp only [szp, List.length_map] at s1
 have ec : cased 108 (cased 85 t) = (t.take 1).map sm ++ (t.drop 1).map gr := by
   rw [case_up t]
   cases t with
   | nil => exact absurd rfl ht.ne
   | cons x t => simp [case_l, sm_gr]
 have el : ((t.take 1).map sm ++ (t.drop 1).map gr).length ≤ 4 := by simp; lia
 have c1 : closeTop [([70], [.text t]), ([], q)] = some [([], joinStep q (.text (t.map sm)))] := by
   rw [close_text rfl (by lia) (by rw [case_low t (.inr rfl)]; simp; lia), case_low t (.inr rfl)]
 have c2 : closeTop [([85], [.text t]), ([108], []), ([], joinStep q (.text (t.map sm)))] = some [([], joinStep (joinStep q (.text (t.map sm))) (.text ((t.take 1).map sm ++ (t.drop 1).map gr)))] := by
   rw [close_two rfl (by lia) (by rw [case_up t]; simp; lia) (by rw [ec]; lia) (by lia), ec]
 refine (go_begin (by simp) (no_pair ht.plain ht.ne) (no_pair ht.plain ht.ne) (begin_new (by simp) (by simp) rfl) (by simp)).trans ?_
 refine (in_word rfl (by simp) ht.plain ht.ne (by lia)).trans ?_
 refine (go_pair (.inr ⟨rfl, rfl⟩) (end_letters_one rfl c1 rfl) (begin_new (by simp) (by simp) rfl) (begin_new (by simp) (by simp) rfl) (by simp)).trans ?_
 refine (in_word rfl (by simp) ht.plain ht.ne (by lia)).trans ?_
 refine go_end ?_ (by simp) (by simp)
 rw [end_long rfl (by simp), c2, join_join]
 simp [List.append_assoc]
theorem way15 {t r : List Nat} (ht : Title t) : B 60 ([92, 81, 36] ++ t ++ [45, 92, 85] ++ t ++ [92, 69, 92, 69]) [.case [81] [.text (45 :: t.map gr), .expr (36 :: t)]] (46 :: r) := by
 have htl := ht.len
 refine ⟨by simp [sz, szp], fun q hq => ?_⟩
 have e : ([92, 81, 36] ++ t ++ [45, 92, 85] ++ t ++ [92, 69, 92, 69]) ++ 46 :: r = 92 :: 81 :: ((36 :: t) ++ ([45] ++ 92 :: 85 :: (t ++ 92 :: 69 :: 92 :: 69 :: 46 :: r))) := by simp
 rw [e]
 have hs : scalarLen false (t ++ ([45] ++ 92 :: 85 :: (t ++ 92 :: 69 :: 92 :: 69 :: 46 :: r))) = 1 + t.length := by
   have f : nameBody ([45] ++ 92 :: 85 :: (t ++ 92 :: 69 :: 92 :: 69 :: 46 :: r)) = 0 := nb_stop rfl (by decide) _
   rw [scalar_title ht, f, List.drop_zero, all_stop (k := 0) rfl (by rw [List.drop_zero]; exact one_no (by decide) (by decide))]
   rfl
 refine (go_begin (by simp) (by simp) (by simp) (begin_new (by simp) (by simp) rfl) (by simp)).trans ?_
 refine ((W.expr (m := [81]) (T := [([], q)]) (by simp) hs).go [] (by simp [sz]; lia)).trans ?_
 refine (go_chars (m := [81]) (T := [([], q)]) rfl (by simp) [45] _ (plain_dec rfl) (by simp) (by simp [sz, szp, joinStep]; lia)).trans ?_
 have ej : joinStep (joins [] [.expr (36 :: t)]) (.text [45]) = [.text [45], .expr (36 :: t)] := rfl
 rw [ej]
 refine (go_begin (by simp) (no_pair ht.plain ht.ne) (no_pair ht.plain ht.ne) (begin_new (by simp) (by simp) rfl) (by simp)).trans ?_
 refine (in_word rfl (by simp) ht.plain ht.ne (by lia)).trans ?_
 refine (go_end (T1 := [([81], [.text (45 :: t.map gr), .expr (36 :: t)]), ([], q)]) ?_ (by simp) (by simp)).trans ?_
 · rw [end_long rfl (by simp), close_text rfl (by lia) (by rw [case_up]; simp [sz, szp]; lia), case_up]
   rfl
 refine go_end ?_ (by simp) (by simp)
 rw [end_long rfl (by simp)]
 exact add_plain (by simp [szp]; lia) rfl
theorem way16 {t r : List Nat} (ht : Title t) : B 60 ([92, 69, 92, 85, 92, 69, 92, 117, 92, 108, 36] ++ t ++ [92, 69]) [.case [117] [.case [108] [.expr (36 :: t)]]] (46 :: r) := by
 have htl := ht.len
 refine ⟨by simp [sz, szp], fun q hq => ?_⟩
 have e : ([92, 69, 92, 85, 92, 69, 92, 117, 92, 108, 36] ++ t ++ [92, 69]) ++ 46 :: r = 92 :: 69 :: 92 :: 85 :: 92 :: 69 :: 92 :: 117 :: 92 :: 108 :: ((36 :: t) ++ (92 :: 69 :: 46 :: r)) := by simp
 rw [e]
 have hs : scalarLen false (t ++ (92 :: 69 :: 46 :: r)) = 1 + t.length := by
   rw [scalar_title ht, nb_stop (c := 92) rfl (by decide), List.drop_zero, all_no (by decide) (by decide) (by decide)]
   rfl
 refine (go_end (T1 := [([], q)]) (by rfl) (by simp) (by simp)).trans ?_
 refine (go_begin (by simp) (by simp) (by simp) (begin_new (by simp) (by simp) rfl) (by simp)).trans ?_
 refine (go_end (T1 := [([], q)]) ?_ (by simp) (by simp)).trans ?_
 · rw [end_long rfl (by simp)]
   rfl
 refine (go_begin (by simp) (by simp) (by simp) (begin_new (by simp) (by simp) rfl) (by simp)).trans ?_
 refine (go_begin (by simp) (by simp) (by simp) (begin_new (by simp) (by simp) rfl) (by simp)).trans ?_
 refine ((W.expr (m := [108]) (T := [([117], []), ([], q)]) (by simp) hs).go [] (by simp [sz]; lia)).trans ?_
 refine go_end ?_ (by simp) (by simp)
 have a1 : closeTop [([108], joins [] [.expr (36 :: t)]), ([117], []), ([], q)] = some [([117], [.case [108] [.expr (36 :: t)]]), ([], q)] := add_plain (q := []) (m := [117]) (T := [([], q)]) (p := .case [108] [.expr (36 :: t)]) (by simp [sz, szp]) rfl
 have a2 : closeTop [([117], [.case [108] [.expr (36 :: t)]]), ([], q)] = some [([], joins q [.case [117] [.case [108] [.expr (36 :: t)]]])] := add_plain (q := q) (m := []) (T := []) (p := .case [117] [.case [108] [.expr (36 :: t)]]) (by simp [szp]; lia) rfl
 unfold endCase
 rw [end_short (k := 49) rfl (by simp) a1 (end_short (k := 48) rfl (by simp) a2 (end_short_no rfl)), Option.bind_some, if_neg (by simp)]
inductive Odd : List Nat → List Part → Prop
 | w0 {t : List Nat} {s : Nat} : Title t → s ∈ [38, 44, 59, 33, 64, 47, 34] → Odd ([36, s] ++ t) [.expr [36, s], .text t]
 | w1 {t d : List Nat} : Title t → (∀ c ∈ d, digit c = true) → d ≠ [] → d.length ≤ 2 → Odd ([36, 48] ++ (d ++ t)) [.expr [36, 48], .text (d ++ t)]
 | w2 {t x : List Nat} : Title t → Nothing t x → Odd x [.text x]
 | w3 {t e : List Nat} : Title t → Empty e → Odd ([36] ++ t ++ e) [.expr (36 :: t), .text e]
 | w4 {t i : List Nat} : Title t → Inner i → Odd ([36] ++ t ++ i) [.expr ([36] ++ t ++ i)]
 | w5 {t : List Nat} : Title t → Odd ([36] ++ t ++ [58, 58]) [.expr (36 :: t), .text [58, 58]]
 | w6 {t : List Nat} : Title t → Odd ([64] ++ t ++ [45, 62, 91, 48, 93]) [.expr (64 :: t), .text [45, 62, 91, 48, 93]]
 | w7 {t : List Nat} : Title t → Odd ([64, 58, 58] ++ t ++ [91, 49, 93, 123, 50, 125]) [.expr ([64, 58, 58] ++ t ++ [91, 49, 93]), .text [123, 50, 125]]
 | w8 {t : List Nat} : Title t → Odd ([36] ++ t ++ [58, 58] ++ t ++ [45, 62, 120]) [.expr ([36] ++ t ++ [58, 58] ++ t), .text [45, 62, 120]]
 | w9 {x t : List Nat} : Code x t → Odd x [.text t]
 | w10 {w : List Nat} : RunW w → Odd ([92, 81] ++ w ++ [92, 69]) [.text (guard w)]
 | w11 {w t : List Nat} : RunW w → Title t → Odd ([92, 85] ++ w ++ t ++ [92, 76] ++ w ++ t ++ [92, 69] ++ t) [.text ((w ++ t).map gr ++ (w ++ t).map sm ++ t)]
 | w12 {w t : List Nat} : RunW w → Title t → Odd ([92, 76] ++ w ++ t ++ [92, 117, 92, 69] ++ t) [.text ((w ++ t).map sm ++ t)]
 | w13 {w t : List Nat} : RunW w → Title t → Odd ([92, 85] ++ w ++ [92, 76, 92, 117] ++ t ++ [92, 69] ++ t) [.text (w.map gr ++ (t.take 1).map gr ++ (t.drop 1).map sm ++ t)]
 | w14 {t : List Nat} : Title t → Odd ([92, 70] ++ t ++ [92, 85, 92, 108] ++ t ++ [92, 69]) [.text (t.map sm ++ (t.take 1).map sm ++ (t.drop 1).map gr)]
 | w15 {t : List Nat} : Title t → Odd ([92, 81, 36] ++ t ++ [45, 92, 85] ++ t ++ [92, 69, 92, 69]) [.case [81] [.text (45 :: t.map gr), .expr (36 :: t)]]
 | w16 {t : List Nat} : Title t → Odd ([92, 69, 92, 85, 92, 69, 92, 117, 92, 108, 36] ++ t ++ [92, 69]) [.case [117] [.case [108] [.expr (36 :: t)]]]
theorem Odd.b {x : List Nat} {ps : List Part} (h : Odd x ps) (r : List Nat) : B 60 x ps (46 :: r) := by
 cases h with
 | w0 a b => exact (way0 a b).mono (by lia)
 | w1 a b c d => exact (way1 a b c d).mono (by lia)
 | w2 a b => exact (way2 a b).mono (by lia)
 | w3 a b => exact (way3 a b).mono (by lia)
 | w4 a b => exact (way4 a b).mono (by lia)
 | w5 a => exact (way5 a).mono (by lia)
 | w6 a => exact (way6 a).mono (by lia)
 | w7 a => exact (way7 a).mono (by lia)
 | w8 a => exact (way8 a).mono (by lia)
 | w9 a => exact (way9 a).mono (by lia)
 | w10 a => exact way10 a
 | w11 a b => exact way11 a b
 | w12 a b => exact way12 a b
 | w13 a b => exact way13 a b
 | w14 a => exact way14 a
 | w15 a => exact way15 a
 | w16 a => exact way16 a
theorem Odd.walk {x : List Nat} {ps : List Part} (h : Odd x ps) (r : List Nat) : B 62 (x ++ [46]) (ps ++ [.text [46]]) r :=
 W.app (n := 60) (n' := 2) (h.b r) (bT (plain_dec rfl) (by simp) (by simp))
noncomputable def Sm (w : List Nat) : Prop := ∀ c ∈ w, c < 128
theorem Sm.app {u v : List Nat} (h : Sm u) (g : Sm v) : Sm (u ++ v) := fun c hc => by
 rcases List.mem_append.mp hc with q | q
 · exact h c q
 · exact g c q
theorem sm_dec {w : List Nat} (h : (w.all fun c => decide (c < 128)) = true) : Sm w := fun c hc => by
 have := List.all_eq_true.mp h c hc
 simpa using this
theorem Title.sm {t : List Nat} (h : Title t) : Sm t := fun c hc => by
 have := (word_iff c).mp (h.word c hc)
 lia
theorem RunW.sm {t : List Nat} (h : RunW t) : Sm t := fun c hc => by
 have := h.sg c hc
 lia
theorem Odd.sm {x : List Nat} {ps : List Part} (h : Odd x ps) : Sm x := by
 cases h with
 | w0 a b => exact Sm.app (u := [36, _]) (fun c hc => by simp at hc b; lia) a.sm
 | w1 a b c d => exact Sm.app (sm_dec rfl) (Sm.app (fun c hc => by have := (digit_iff c).mp (b c hc); lia) a.sm)
 | w2 a b => cases b <;> first | exact sm_dec rfl | exact Sm.app (sm_dec rfl) a.sm
 | w3 a b => exact Sm.app (Sm.app (sm_dec rfl) a.sm) (by cases b <;> exact sm_dec rfl)
 | w4 a b => exact Sm.app (Sm.app (sm_dec rfl) a.sm) (by cases b <;> exact sm_dec rfl)
 | w5 a => exact Sm.app (Sm.app (sm_dec rfl) a.sm) (sm_dec rfl)
 | w6 a => exact Sm.app (Sm.app (sm_dec rfl) a.sm) (sm_dec rfl)
 | w7 a => exact Sm.app (Sm.app (sm_dec rfl) a.sm) (sm_dec rfl)
 | w8 a => exact Sm.app (Sm.app (Sm.app (Sm.app (sm_dec rfl) a.sm) (sm_dec rfl)) a.sm) (sm_dec rfl)
 | w9 a => cases a <;> exact sm_dec rfl
 | w10 a => exact Sm.app (Sm.app (sm_dec rfl) a.sm) (sm_dec rfl)
 | w11 a b => exact Sm.app (Sm.app (Sm.app (Sm.app (Sm.app (Sm.app (Sm.app (sm_dec rfl) a.sm) b.sm) (sm_dec rfl)) a.sm) b.sm) (sm_dec rfl)) b.sm
 | w12 a b => exact Sm.app (Sm.app (Sm.app (Sm.app (sm_dec rfl) a.sm) b.sm) (sm_dec rfl)) b.sm
 | w13 a b => exact Sm.app (Sm.app (Sm.app (Sm.app (Sm.app (sm_dec rfl) a.sm) (sm_dec rfl)) b.sm) (sm_dec rfl)) b.sm
 | w14 a => exact Sm.app (Sm.app (Sm.app (Sm.app (sm_dec rfl) a.sm) (sm_dec rfl)) a.sm) (sm_dec rfl)
 | w15 a => exact Sm.app (Sm.app (Sm.app (Sm.app (sm_dec rfl) a.sm) (sm_dec rfl)) a.sm) (sm_dec rfl)
 | w16 a => exact Sm.app (Sm.app (sm_dec rfl) a.sm) (sm_dec rfl)
theorem Nothing.len {t x : List Nat} (h : Nothing t x) : x.length ≤ 5 + t.length := by
 cases h <;> first | exact Nat.le_trans (Nat.le_of_ble_eq_true (m := 5) rfl) (Nat.le_add_right _ _) | (rw [List.length_append]; exact Nat.add_le_add_right (by decide) _)
theorem Empty.len {x : List Nat} (h : Empty x) : x.length ≤ 4 := by
 cases h <;> exact Nat.le_of_ble_eq_true rfl
theorem Code.len {t x : List Nat} (h : Code x t) : x.length ≤ 12 ∧ t.length ≤ 2 ∧ t ≠ [] := by
 cases h <;> exact ⟨Nat.le_of_ble_eq_true rfl, Nat.le_of_ble_eq_true rfl, List.cons_ne_nil _ _⟩
theorem la {u v : List Nat} {a b : Nat} (hu : u.length ≤ a) (hv : v.length ≤ b) : (u ++ v).length ≤ a + b := by
 rw [List.length_append]; exact Nat.add_le_add hu hv
theorem l60 {u : List Nat} {a : Nat} (h : u.length ≤ a) (k : Nat.ble a 60 = true) : u.length ≤ 60 := Nat.le_trans h (Nat.le_of_ble_eq_true k)
theorem Odd.len {x : List Nat} {ps : List Part} (h : Odd x ps) : x.length ≤ 60 := by
 have r := fun n : Nat => Nat.le_refl n
 cases h with
 | w0 a b => exact l60 (la (r _) a.len) rfl
 | w1 a b c d => exact l60 (la (r _) (la d a.len)) rfl
 | w2 a b => exact l60 (Nat.le_trans b.len (Nat.add_le_add_left a.len 5)) rfl
 | w3 a b => exact l60 (la (la (r _) a.len) b.len) rfl
 | w4 a b => exact l60 (la (la (r _) a.len) (b := 19) (by cases b <;> exact Nat.le_of_ble_eq_true rfl)) rfl
 | w5 a => exact l60 (la (la (r _) a.len) (r _)) rfl
 | w6 a => exact l60 (la (la (r _) a.len) (r _)) rfl
 | w7 a => exact l60 (la (la (r _) a.len) (r _)) rfl
 | w8 a => exact l60 (la (la (la (la (r _) a.len) (r _)) a.len) (r _)) rfl
 | w9 a => exact l60 a.len.1 rfl
 | w10 a => exact l60 (la (la (r _) a.len) (r _)) rfl
 | w11 a b => exact l60 (la (la (la (la (la (la (la (r _) a.len) b.len) (r _)) a.len) b.len) (r _)) b.len) rfl
 | w12 a b => exact l60 (la (la (la (la (r _) a.len) b.len) (r _)) b.len) rfl
 | w13 a b => exact l60 (la (la (la (la (la (r _) a.len) (r _)) b.len) (r _)) b.len) rfl
 | w14 a => exact l60 (la (la (la (la (r _) a.len) (r _)) a.len) (r _)) rfl
 | w15 a => exact l60 (la (la (la (la (r _) a.len) (r _)) a.len) (r _)) rfl
 | w16 a => exact l60 (la (la (r _) a.len) (r _)) rfl
inductive Tail : List Nat → List Part → Prop
 | a : Tail [36, 120, 91, 49] [.expr [36, 120], .text [91, 49]]
 | b : Tail [36, 120, 123, 105, 116, 39, 115, 125] [.expr [36, 120, 123, 105, 116, 39, 115, 125]]
 | c : Tail [36, 123, 120] [.text [36, 123, 120]]
 | d : Tail [64, 123, 120] [.text [64, 123, 120]]
 | e : Tail [36, 120, 45, 62, 91] [.expr [36, 120], .text [45, 62, 91]]
 | f : Tail [36] [.text [36]]
 | g : Tail [64] [.text [64]]
 | h : Tail [36, 36] [.text [36, 36]]
 | i : Tail [36, 35] [.text [36, 35]]
 | j : Tail [92] [.text [92]]
 | k : Tail [92, 85, 36, 120] [.case [85] [.expr [36, 120]]]
 | l : Tail [92, 85, 97, 92, 117] [.text [65]]
 | m : Tail [92, 99] [.text [99]]
noncomputable def Ends (x : List Nat) (ps : List Part) : Prop := ∀ q, sz q ≤ 40000 → ∃ T, Go 50 false [([], q)] x T [] ∧ closeAll 50 T = some [([], joins q ps)]
theorem ends_b {n : Nat} {x : List Nat} {ps : List Part} (h : B n x ps []) (hn : n ≤ 100) : Ends x ps := fun q hq => by
 have := h.go q (by lia)
 rw [List.append_nil] at this
 exact ⟨_, this, rfl⟩
theorem title_x : Title [120] := ⟨rfl, fun c hc => by simp at hc; subst hc; rfl, by decide⟩
theorem sc_x {r : List Nat} {m : Nat} (h : nameBody r = 0) (a : allLen false r = m) : scalarLen false ([120] ++ r) = 2 + m := by
 rw [scalar_title title_x, h, List.drop_zero, a]; rfl
theorem no_x {r : List Nat} (h : nameBody r = 0) (h1 : oneLen (false && decide (arrow r = 0)) (r.drop (arrow r)) = 0) : scalarLen false ([120] ++ r) = 2 := sc_x h (all_stop rfl h1)
theorem ex_txt {w : List Nat} (h : nameBody w = 0) (h1 : oneLen (false && decide (arrow w = 0)) (w.drop (arrow w)) = 0) (hp : plain w) (h0 : w ≠ []) (hl : w.length ≤ 5) : Ends ([36, 120] ++ w) [.expr [36, 120], .text w] :=
 ends_b (n := 20) ((W.app (t := [36, 120]) (n := 3) (n' := 10) (bE (x := [120]) (by rw [List.append_nil]; exact no_x h h1) (Nat.le_refl 3)) (bT (w := w) hp h0 (Nat.mul_le_mul_left 2 hl))).mono (Nat.le_of_ble_eq_true rfl)) (Nat.le_of_ble_eq_true rfl)
theorem ends_k : Ends [92, 85, 36, 120] [.case [85] [.expr [36, 120]]] := fun q hq => by
 refine ⟨[([85], [.expr [36, 120]]), ([], q)], ?_, ?_⟩
 · exact (go_begin (T1 := [([85], []), ([], q)]) (by decide) (by decide) (by decide) (begin_new (by decide) (Nat.le_of_ble_eq_true rfl) rfl) (Nat.le_of_ble_eq_true rfl)).trans ((W.expr (m := [85]) (T := [([], q)]) (x := [120]) (r := []) (Nat.le_of_ble_eq_true rfl) (no_x rfl rfl)).go [] (Nat.le_of_ble_eq_true rfl))
 · have a2 : closeTop [([85], [.expr [36, 120]]), ([], q)] = some [([], joins q [.case [85] [.expr [36, 120]]])] := add_plain (q := q) (m := []) (T := []) (p := .case [85] [.expr [36, 120]]) (Nat.le_trans (Nat.add_le_add_right hq _) (Nat.le_of_ble_eq_true rfl)) rfl
   rw [closeAll, if_pos (by exact Nat.le_of_ble_eq_true rfl), a2]; rfl
theorem ends_l : Ends [92, 85, 97, 92, 117] [.text [65]] := fun q hq => by
 refine ⟨[([117], []), ([85], [.text [97]]), ([], q)], ?_, ?_⟩
 · exact (go_begin (T1 := [([85], []), ([], q)]) (by decide) (by decide) (by decide) (begin_new (by decide) (Nat.le_of_ble_eq_true rfl) rfl) (Nat.le_of_ble_eq_true rfl)).trans ((in_word (c := 85) (T := [([], q)]) (w := [97]) (r := [92, 117]) rfl (Nat.le_of_ble_eq_true rfl) (plain_dec rfl) (List.cons_ne_nil _ _) (Nat.le_of_ble_eq_true rfl)).trans (go_begin (by decide) (by decide) (by decide) rfl (Nat.le_of_ble_eq_true rfl)))
 · have a2 : closeTop [([85], [.text [97]]), ([], q)] = some [([], joins q [.text [65]])] := by
     rw [close_text rfl (Nat.le_of_ble_eq_true rfl) (by rw [case_up]; exact Nat.le_trans (Nat.add_le_add_right hq 2) (Nat.le_of_ble_eq_true rfl)), case_up]; rfl
   have a1 : closeTop [([117], []), ([85], [.text [97]]), ([], q)] = some [([85], [.text [97]]), ([], q)] := rfl
   rw [closeAll, if_pos (by exact Nat.le_of_ble_eq_true rfl), a1, Option.bind_some, closeAll, if_pos (by exact Nat.le_of_ble_eq_true rfl), a2]; rfl
theorem Tail.ends {x : List Nat} {ps : List Part} (h : Tail x ps) : Ends x ps := by
 cases h with
 | a => exact ex_txt (w := [91, 49]) rfl rfl (plain_dec rfl) (List.cons_ne_nil _ _) (Nat.le_of_ble_eq_true rfl)
 | b => exact ends_b (n := 20) (bE (x := [120] ++ [123, 105, 116, 39, 115, 125]) (sc_x (r := [123, 105, 116, 39, 115, 125]) (m := 6) rfl (all_step (pat := false) (k := 0) (m := 6) (n := 0) rfl rfl (Nat.succ_ne_zero _) (all_stop (pat := false) (k := 0) rfl rfl))) (Nat.le_of_ble_eq_true rfl)) (Nat.le_of_ble_eq_true rfl)
 | c => exact ends_b (n := 20) (bDT (w := [123, 120]) (plain_dec rfl) (List.cons_ne_nil _ _) rfl (Nat.le_of_ble_eq_true rfl)) (Nat.le_of_ble_eq_true rfl)
 | d => exact ends_b (n := 20) (bST (w := [123, 120]) (plain_dec rfl) (List.cons_ne_nil _ _) rfl (Nat.le_of_ble_eq_true rfl)) (Nat.le_of_ble_eq_true rfl)
 | e => exact ex_txt (w := [45, 62, 91]) rfl rfl (plain_dec rfl) (List.cons_ne_nil _ _) (Nat.le_of_ble_eq_true rfl)
 | f => exact ends_b (bD rfl) (Nat.le_of_ble_eq_true rfl)
 | g => exact ends_b (bS rfl) (Nat.le_of_ble_eq_true rfl)
 | h => exact ends_b (bTT (W.app (bD rfl) (bD rfl))) (Nat.le_of_ble_eq_true rfl)
 | i => exact ends_b (n := 20) (bDT (w := [35]) (plain_dec rfl) (List.cons_ne_nil _ _) rfl (Nat.le_of_ble_eq_true rfl)) (Nat.le_of_ble_eq_true rfl)
 | j => exact ends_b (n := 4) (W.esc (x := []) (t := [92]) rfl (Nat.le_of_ble_eq_true rfl) rfl (Nat.le_of_ble_eq_true rfl) (fun _ => rfl) rfl) (Nat.le_of_ble_eq_true rfl)
 | k => exact ends_k
 | l => exact ends_l
 | m => exact ends_b (n := 4) (W.esc (x := [99]) (t := [99]) rfl (Nat.le_of_ble_eq_true rfl) rfl (Nat.le_of_ble_eq_true rfl) (fun z => nomatch z) rfl) (Nat.le_of_ble_eq_true rfl)
theorem Tail.sm {x : List Nat} {ps : List Part} (h : Tail x ps) : Sm x := by
 cases h <;> exact sm_dec rfl
theorem Tail.len {x : List Nat} {ps : List Part} (h : Tail x ps) : x.length ≤ 10 := by
 cases h <;> decide
inductive Refused : List Nat → Prop
 | a : Refused [92, 120, 123, 49, 49, 48, 48, 48, 48, 125]
 | b : Refused [92, 120, 123, 52, 49]
 | c : Refused [92, 111, 123, 55]
 | d : Refused [92, 78, 123, 85, 43, 57]
 | e : Refused [92, 111, 123, 52, 50, 48, 48, 48, 48, 48, 125]
 | f : Refused [92, 78, 123, 85, 43, 102, 102, 102, 102, 102, 102, 102, 102, 125]
 | g : Refused [92, 120, 123]
theorem Refused.esc {x : List Nat} (h : Refused x) : ∃ r, x = 92 :: r ∧ Mine.esc r = none := by
 cases h <;> exact ⟨_, rfl, rfl⟩
theorem Refused.sm {x : List Nat} (h : Refused x) : Sm x := by
 cases h <;> exact sm_dec rfl
theorem Refused.len {x : List Nat} (h : Refused x) : x.length ≤ 20 := by
 cases h <;> decide
noncomputable abbrev P (n : Nat) (t : List Nat) (ps : List Part) (r : List Nat) : Prop := W true [] [] n t ps r
theorem pT {n : Nat} {w : List Nat} {r : List Nat} (hw : plain w) (h0 : w ≠ []) (hn : 2 * w.length ≤ n) : P n w [.text w] r := (W.text rfl (by simp) hw h0).mono hn
theorem pE {n : Nat} {x : List Nat} {r : List Nat} (h : scalarLen true (x ++ r) = 1 + x.length) (hn : x.length + 2 ≤ n) : P n (36 :: x) [.expr (36 :: x)] r := (W.expr (by simp) h).mono hn
theorem pA {n : Nat} {x : List Nat} {r : List Nat} (h : arrayLen true (x ++ r) = 1 + x.length) (hn : x.length + 2 ≤ n) : P n (64 :: x) [.expr (64 :: x)] r := (W.arr (by simp) h).mono hn
theorem pTT {n : Nat} {t u v : List Nat} {r : List Nat} (h : P n t [.text u, .text v] r) : P n t [.text (u ++ v)] r :=
 W.conv h rfl (fun q => by simp [joins, join_join]) (by simp [sz, szp]; lia)
structure Count (d : List Nat) : Prop where
 dg : ∀ c ∈ d, digit c = true
 ne : d ≠ []
 len : d.length ≤ 2
theorem Count.sm {d : List Nat} (h : Count d) : Sm d := fun c hc => by
 have := (digit_iff c).mp (h.dg c hc)
 lia
theorem Count.cons {d : List Nat} (h : Count d) : ∃ x d', d = x :: d' ∧ 48 ≤ x ∧ x ≤ 57 := by
 cases d with
 | nil => exact absurd rfl h.ne
 | cons x d => exact ⟨x, d, rfl, (digit_iff x).mp (h.dg x (by simp))⟩
theorem Count.all {d : List Nat} (h : Count d) : Mine.dg d = true := by
 have h1 := h.ne
 have : d.all digit = true := List.all_eq_true.mpr h.dg
 simp [Mine.dg, this, h1]
theorem sub_skip {op cl dep : Nat} {r : List Nat} : ∀ w : List Nat, (∀ c ∈ w, c ≠ 92 ∧ c ≠ 39 ∧ c ≠ 34 ∧ c ≠ op ∧ c ≠ cl) → subG op cl (w ++ r) dep = (subG op cl r dep).map (· + w.length)
 | [], _ => by cases h : subG op cl r dep <;> simp [h]
 | c :: w, h => by
   have h1 := h c (.head _)
   have ih := sub_skip (op := op) (cl := cl) (dep := dep) (r := r) w (fun x hx => h x (.tail _ hx))
   rw [List.cons_append, subG_cons, if_neg h1.1, if_neg (by lia), if_neg h1.2.2.2.1, if_neg h1.2.2.2.2, ih]
   cases subG op cl r dep <;> simp
   lia
noncomputable abbrev Br (op cl : Nat) : Prop := (op = 91 ∧ cl = 93) ∨ (op = 123 ∧ cl = 125)
noncomputable def Rg (w : List Nat) : Prop := ∀ c ∈ w, (44 ≤ c ∧ c ≤ 57) ∨ c = 97
theorem rg_dec {w : List Nat} (h : (w.all fun c => decide ((44 ≤ c ∧ c ≤ 57) ∨ c = 97)) = true) : Rg w := fun c hc => of_decide_eq_true (List.all_eq_true.mp h c hc)
theorem Rg.app {u v : List Nat} (h : Rg u) (g : Rg v) : Rg (u ++ v) := fun c hc => (List.mem_append.mp hc).elim (h c) (g c)
theorem Rg.plain {w : List Nat} (h : Rg w) : plain w := fun c hc => by
 have := h c hc
 lia
theorem Rg.so {w : List Nat} {op cl : Nat} (h : Rg w) (ho : Br op cl) : ∀ c ∈ w, c ≠ 92 ∧ c ≠ 39 ∧ c ≠ 34 ∧ c ≠ op ∧ c ≠ cl := fun c hc => by
 have := h c hc
 rcases ho with ⟨rfl, rfl⟩ | ⟨rfl, rfl⟩ <;> lia
theorem Count.rg {d : List Nat} (h : Count d) : Rg d := fun c hc => by
 have := (digit_iff c).mp (h.dg c hc)
 lia
theorem Count.plain {d : List Nat} (h : Count d) : plain d := h.rg.plain
theorem Rg.ws {w : List Nat} (h : Rg w) (h0 : w ≠ []) : ¬ w.all (fun c => [32, 9, 10].contains c) = true := fun z => by
 cases w with
 | nil => exact h0 rfl
 | cons x w =>
   have h1 := h x (.head _)
   have h2 := List.all_eq_true.mp z x (.head _)
   simp at h2; lia
theorem sub_word {op cl : Nat} {w r : List Nat} (ho : Br op cl) (hw : Rg w) (h0 : w ≠ []) : subEnd (op :: (w ++ cl :: r)) = some (w.length + 2) := by
 have hcl : closer op = cl := by rcases ho with ⟨rfl, rfl⟩ | ⟨rfl, rfl⟩ <;> rfl
 have h1 : subG op cl (cl :: r) 1 = some 1 := by
   rw [subG_cons, if_neg (by lia), if_neg (by lia), if_neg (by lia), if_pos rfl, if_pos rfl]
 have h2 := sub_skip (op := op) (cl := cl) (dep := 1) (r := cl :: r) w (hw.so ho)
 rw [h1] at h2
 unfold subEnd
 dsimp only
 rw [hcl, h2]
 show (if ((w ++ cl :: r).take (1 + w.length - 1)).all _ = true then _ else some (1 + w.length + 1)) = _
 rw [Nat.add_sub_cancel_left, List.take_left, if_neg (hw.ws h0), Nat.add_comm 1]
theorem one_word {op cl : Nat} {w r : List Nat} (ho : Br op cl) (hw : Rg w) (h0 : w ≠ []) : oneLen true (op :: (w ++ cl :: r)) = if patPart w op = true then 0 else w.length + 2 := by
 unfold oneLen
 dsimp only
 rw [if_pos (by lia), sub_word ho hw h0]
 dsimp only
 rw [Nat.add_sub_cancel, List.take_left]
 simp
theorem partAt_app (w r : List Nat) (h : ∀ c ∈ w, c ≠ 44) : partAt 44 (w ++ 44 :: r) = some (w, r) := by
 induction w with
 | nil => simp [partAt]
 | cons c w ih =>
   have h1 := h c (.head _)
   simp [partAt, h1, ih (fun x hx => h x (.tail _ hx))]
theorem partAt_no (w : List Nat) (h : ∀ c ∈ w, c ≠ 44) : partAt 44 w = none := by
 induction w with
 | nil => simp [partAt]
 | cons c w ih =>
   have h1 := h c (.head _)
   simp [partAt, h1, ih (fun x hx => h x (.tail _ hx))]
theorem pat_scalar {t w r : List Nat} {op cl : Nat} (h : Title t) (ho : Br op cl) (hw : Rg w) (h0 : w ≠ []) : scalarLen true (t ++ (op :: (w ++ cl :: 46 :: r))) = if patPart w op = true then 1 + t.length else 1 + t.length + (w.length + 2) := by
 have f : nameBody (op :: (w ++ cl :: 46 :: r)) = 0 := nb_stop (by rcases ho with ⟨rfl, _⟩ | ⟨rfl, _⟩ <;> rfl) (by lia) _
 have a0 : arrow (op :: (w ++ cl :: 46 :: r)) = 0 := if_neg fun z => by
   have : op = 45 := (List.cons.inj z).1
   lia
 have h1 := one_word (r := 46 :: r) ho hw h0
 rw [scalar_title h, f, List.drop_zero]
 split at h1
 · rename_i hp
   rw [if_pos hp, all_stop (k := 0) a0 (by rw [List.drop_zero]; exact h1)]
   rfl
 · rename_i hp
   rw [if_neg hp]
   have hd : (op :: (w ++ cl :: 46 :: r)).drop (0 + (w.length + 2)) = 46 :: r := by
     rw [Nat.zero_add, List.drop_succ_cons, ← List.drop_drop, List.drop_left]; rfl
   rw [all_step (pat := true) (k := 0) (m := w.length + 2) (n := 0) a0 (by rw [List.drop_zero]; exact h1) (Nat.succ_ne_zero _) (by rw [hd]; exact all_no (by decide) (by decide) (by decide)), Nat.zero_add]; rfl
theorem pat_len (w : List Nat) (op cl : Nat) : (op :: (w ++ [cl])).length = w.length + 2 := by rw [List.length_cons, List.length_append]; rfl
theorem pat_in {t w r : List Nat} {op cl : Nat} (h : Title t) (hl : w.length ≤ 6) (ho : Br op cl) (hw : Rg w) (h0 : w ≠ []) (hp : patPart w op = false) : P 40 (36 :: (t ++ op :: (w ++ [cl]))) [.expr (36 :: (t ++ op :: (w ++ [cl])))] (46 :: r) := by
 have htl := h.len
 have e : (t ++ op :: (w ++ [cl])).length = t.length + (w.length + 2) := by rw [List.length_append, pat_len]
 refine pE (x := t ++ op :: (w ++ [cl])) ?_ (by lia)
 rw [List.append_assoc, List.cons_append, List.append_assoc]
 refine (pat_scalar h ho hw h0).trans ?_
 rw [hp, e, ← Nat.add_assoc 1]; rfl
theorem pat_out {t w r : List Nat} {op cl : Nat} (h : Title t) (hl : w.length ≤ 6) (ho : Br op cl) (hw : Rg w) (h0 : w ≠ []) (hp : patPart w op = true) : P 40 ([36] ++ t ++ (op :: (w ++ [cl]))) [.expr (36 :: t), .text (op :: (w ++ [cl]))] (46 :: r) := by
 have htl := h.len
 have e := pat_len w op cl
 refine (W.app (n := 5) (n' := 20) (t := 36 :: t) (pE (x := t) ?_ (by lia)) (pT (w := op :: (w ++ [cl])) ?_ (List.cons_ne_nil _ _) (by lia))).mono (by decide)
 · rw [List.cons_append, List.append_assoc]
   refine (pat_scalar h ho hw h0).trans (if_pos hp)
 · exact plain_app (u := [op]) (fun c hc => by simp at hc; lia) (plain_app hw.plain (fun c hc => by simp at hc; lia))
inductive Pat (t d : List Nat) : List Nat → List Part → Prop
 | a : Pat t d ([36] ++ t ++ [123] ++ d ++ [44, 97, 125]) [.expr ([36] ++ t ++ [123] ++ d ++ [44, 97, 125])]
 | b : Pat t d ([36] ++ t ++ [91, 45, 93]) [.expr ([36] ++ t), .text [91, 45, 93]]
 | c : Pat t d ([36] ++ t ++ [91, 45] ++ d ++ [93]) [.expr ([36] ++ t ++ [91, 45] ++ d ++ [93])]
 | d : Pat t d ([36] ++ t ++ [123] ++ d ++ [125]) [.expr ([36] ++ t), .text ([123] ++ d ++ [125])]
 | e : Pat t d ([36] ++ t ++ [91] ++ d ++ [45, 57, 93]) [.expr ([36] ++ t), .text ([91] ++ d ++ [45, 57, 93])]
 | f : Pat t d ([36] ++ t ++ [123, 97, 44] ++ d ++ [125]) [.expr ([36] ++ t ++ [123, 97, 44] ++ d ++ [125])]
 | g : Pat t d ([64] ++ t ++ [123] ++ d ++ [44, 125]) [.expr ([64] ++ t), .text ([123] ++ d ++ [44, 125])]
 | h : Pat t d ([92, 120, 123] ++ d) [.text ([92, 120, 123] ++ d)]
theorem part_comma {d : List Nat} (h : Count d) (r : List Nat) : patPart (d ++ 44 :: r) 123 = (r.isEmpty || Mine.dg r) := by
 unfold patPart
 rw [if_pos rfl, partAt_app d r fun c hc => by have := (digit_iff c).mp (h.dg c hc); lia]
 show (Mine.dg d && _) = _
 rw [h.all, Bool.true_and]
theorem part_d {d : List Nat} (h : Count d) : patPart d 123 = true := by
 unfold patPart
 rw [if_pos rfl, partAt_no d fun c hc => by have := (digit_iff c).mp (h.dg c hc); lia]
 exact h.all
theorem take_no {d : List Nat} (h : Count d) (r : List Nat) {x : Nat} (hx : x < 48) : (d ++ r).take 1 ≠ [x] := by
 obtain ⟨y, d', rfl, hy, _⟩ := h.cons
 exact fun z => by have : y = x := (List.cons.inj z).1; lia
theorem part_neg {d : List Nat} (h : Count d) : patPart (45 :: d) 91 = false := by
 unfold patPart
 rw [if_neg (by decide)]
 show (if d.take 1 = [36] then false else !Mine.dg d || decide (2 < d.length)) = false
 rw [if_neg (List.append_nil d ▸ take_no h [] (by decide)), h.all, decide_eq_false (Nat.not_lt.mpr h.len)]; rfl
theorem part_rng {d : List Nat} (h : Count d) : patPart (d ++ [45, 57]) 91 = true := by
 unfold patPart
 have e : Mine.dg (d ++ [45, 57]) = false := by unfold Mine.dg; rw [List.all_append, Bool.and_comm]; show (_ && false && _) = _; rw [Bool.and_false, Bool.false_and]
 rw [if_neg (by decide)]
 dsimp only
 rw [if_neg (take_no h _ (by decide)), if_neg (take_no h _ (by decide)), e]; rfl
theorem sh (t d u v : List Nat) (s op cl : Nat) : [s] ++ t ++ (op :: u) ++ d ++ (v ++ [cl]) = s :: (t ++ op :: ((u ++ d ++ v) ++ [cl])) := by simp
theorem mid_len {d u v : List Nat} (hd : Count d) (hl : u.length + v.length ≤ 4) : (u ++ d ++ v).length ≤ 6 := by
 have := hd.len
 rw [List.length_append, List.length_append]; lia
theorem mid_ne {d u v : List Nat} (hd : Count d) : u ++ d ++ v ≠ [] := fun z => hd.ne (List.append_eq_nil_iff.mp (List.append_eq_nil_iff.mp z).1).2
theorem in5 {t d u v r : List Nat} {op cl : Nat} (h : Title t) (hd : Count d) (hl : u.length + v.length ≤ 4) (ho : Br op cl) (hu : Rg u) (hv : Rg v) (hp : patPart (u ++ d ++ v) op = false) : P 40 ([36] ++ t ++ (op :: u) ++ d ++ (v ++ [cl])) [.expr ([36] ++ t ++ (op :: u) ++ d ++ (v ++ [cl]))] (46 :: r) :=
 sh t d u v 36 op cl ▸ pat_in h (mid_len hd hl) ho ((hu.app hd.rg).app hv) (mid_ne hd) hp
theorem out5 {t d v r : List Nat} {op cl : Nat} (h : Title t) (hd : Count d) (hl : v.length ≤ 4) (ho : Br op cl) (hv : Rg v) (hp : patPart (d ++ v) op = true) : P 40 ([36] ++ t ++ [op] ++ d ++ (v ++ [cl])) [.expr ([36] ++ t), .text ([op] ++ d ++ (v ++ [cl]))] (46 :: r) := by
 have k := pat_out (w := d ++ v) (r := r) h (mid_len (u := []) hd (Nat.zero_add _ ▸ hl)) ho (hd.rg.app hv) (mid_ne (u := []) hd) hp
 rw [List.append_assoc d] at k
 rw [List.append_assoc ([36] ++ t ++ [op]), List.append_assoc ([36] ++ t)]
 exact k
theorem arr_out {t d r : List Nat} (ht : Title t) (hd : Count d) : P 40 ([64] ++ t ++ [123] ++ d ++ [44, 125]) [.expr ([64] ++ t), .text ([123] ++ d ++ [44, 125])] (46 :: r) := by
 have hl := hd.len
 have htl := ht.len
 have f : nameBody (123 :: ((d ++ [44, 125]) ++ 46 :: r)) = 0 := nb_stop rfl (by decide) _
 have h1 := one_word (op := 123) (cl := 125) (w := d ++ [44]) (r := 46 :: r) (.inr ⟨rfl, rfl⟩) (hd.rg.app (rg_dec rfl)) (mid_ne (u := []) hd)
 rw [part_comma hd [], if_pos (show (([] : List Nat).isEmpty || Mine.dg []) = true from rfl), List.append_assoc] at h1
 rw [List.append_assoc ([64] ++ t ++ [123]), List.append_assoc ([64] ++ t)]
 refine (W.app (t := 64 :: t) (n := 5) (n' := 10) (pA (x := t) ?_ (by lia)) (pT (w := 123 :: (d ++ [44, 125])) ?_ (List.cons_ne_nil _ _) (by rw [List.length_cons, List.length_append]; show 2 * (d.length + 2 + 1) ≤ 10; lia))).mono (by decide)
 · show arrayLen true (t ++ 123 :: ((d ++ [44, 125]) ++ 46 :: r)) = _
   rw [array_title ht, f, List.drop_zero, List.append_assoc]
   exact congrArg (1 + t.length + ·) h1
 · exact plain_app (u := [123]) (plain_dec rfl) (plain_app hd.plain (plain_dec rfl))
theorem Pat.b' {t d x r : List Nat} {ps : List Part} (ht : Title t) (hd : Count d) (h : Pat t d x ps) : P 40 x ps (46 :: r) := by
 cases h with
 | a => exact in5 (u := []) (v := [44, 97]) ht hd (by decide) (.inr ⟨rfl, rfl⟩) (rg_dec rfl) (rg_dec rfl) (part_comma hd [97])
 | b => exact pat_out (w := [45]) ht (by decide) (.inl ⟨rfl, rfl⟩) (rg_dec rfl) (by decide) rfl
 | c => exact in5 (u := [45]) (v := []) ht hd (by decide) (.inl ⟨rfl, rfl⟩) (rg_dec rfl) (rg_dec rfl) (by rw [List.append_nil]; exact part_neg hd)
 | d => exact out5 (v := []) ht hd (by decide) (.inr ⟨rfl, rfl⟩) (rg_dec rfl) (by rw [List.append_nil]; exact part_d hd)
 | e => exact out5 (v := [45, 57]) ht hd (by decide) (.inl ⟨rfl, rfl⟩) (rg_dec rfl) (part_rng hd)
 | f => exact in5 (u := [97, 44]) (v := []) ht hd (by decide) (.inr ⟨rfl, rfl⟩) (rg_dec rfl) (rg_dec rfl) rfl
 | g => exact arr_out ht hd
 | h =>
   have hl := hd.len
   exact (pTT (W.app (n := 4) (n' := 20) (r := 46 :: r) (W.pesc (c := 120) rfl (by simp) rfl) (pT (w := 123 :: d) (plain_app (u := [123]) (plain_dec rfl) hd.plain) (List.cons_ne_nil _ _) (by rw [List.length_cons]; lia)))).mono (n' := 40) (by decide)
theorem Pat.walk {t d x r : List Nat} {ps : List Part} (ht : Title t) (hd : Count d) (h : Pat t d x ps) : P 42 (x ++ [46]) (ps ++ [.text [46]]) r :=
 W.app (n := 40) (n' := 2) (h.b' ht hd) (pT (plain_dec rfl) (by simp) (by simp))
theorem pat_last : P 4 [92] [.text [92]] [] := by
 refine ⟨by simp [sz, szp], fun q hq => ?_⟩
 have hadd := add_plain (m := []) (T := []) (q := q) (p := .text [92]) (by simp [szp]; lia) (by simp [short])
 refine .step (T1 := [([], joinStep q (.text [92]))]) (m := 2) ?_ (by simp) (by simp) .refl
 show (addPart [([], q)] (.text [92])).map (fun T1 => (T1, 2)) = _
 rw [hadd]
 rfl
theorem sm5 {t d u v : List Nat} {a : Nat} (ht : Title t) (hd : Count d) (ha : Sm [a]) (hu : Sm u) (hv : Sm v) (h : u.length + v.length ≤ 8) : Sm ([a] ++ t ++ u ++ d ++ v) ∧ ([a] ++ t ++ u ++ d ++ v).length ≤ 20 := by
 have htl := ht.len
 have hdl := hd.len
 exact ⟨Sm.app (Sm.app (Sm.app (Sm.app ha ht.sm) hu) hd.sm) hv, by rw [List.length_append, List.length_append, List.length_append, List.length_append]; show 1 + _ + _ + _ + _ ≤ 20; lia⟩
theorem Pat.sm {t d x : List Nat} {ps : List Part} (ht : Title t) (hd : Count d) (h : Pat t d x ps) : Sm x ∧ x.length ≤ 20 := by
 cases h
 case b => exact ⟨Sm.app (Sm.app (sm_dec rfl) ht.sm) (sm_dec rfl), by rw [List.length_append, List.length_append]; exact Nat.add_le_add_right (Nat.add_le_add_left (Nat.le_trans ht.len (by decide : 3 ≤ 16)) 1) 3⟩
 case h => exact ⟨Sm.app (sm_dec rfl) hd.sm, by rw [List.length_append]; exact Nat.add_le_add_left (Nat.le_trans hd.len (by decide : 2 ≤ 17)) 3⟩
 all_goals exact sm5 ht hd (sm_dec rfl) (sm_dec rfl) (sm_dec rfl) (Nat.le_of_ble_eq_true rfl)
mutual
noncomputable def vl : Part → V
 | .text t => .tup [.str tx, .str t]
 | .expr t => .tup [.str ex, .str t]
 | .case m q => .tup [.str cs, .str m, .il (vls q)]
noncomputable def vls : List Part → List V
 | [] => []
 | p :: q => vls q ++ [vl p]
end
mutual
noncomputable def need : Part → Nat
 | .text _ => 5
 | .expr _ => 5
 | .case _ q => needs q + q.length + 7
noncomputable def needs : List Part → Nat
 | [] => 4
 | p :: q => max (need p) (needs q)
end
theorem vls_len : ∀ q : List Part, (vls q).length = q.length
 | [] => by simp [vls]
 | p :: q => by simp [vls, vls_len q]
noncomputable def Fl (μ : Mem) (K : Nat) (v t : V) : Prop := ∀ n, K ≤ n → flat n μ v = some t
inductive FlL (μ : Mem) (K : Nat) : List V → List V → Prop
 | nil : FlL μ K [] []
 | cons {v t : V} {vs ts : List V} : Fl μ K v t → FlL μ K vs ts → FlL μ K (v :: vs) (t :: ts)
theorem Fl.mono {μ : Mem} {K K' : Nat} {v t : V} (h : Fl μ K v t) (hk : K ≤ K') : Fl μ K' v t := fun n hn => h n (by lia)
theorem FlL.mono {μ : Mem} {K K' : Nat} {vs ts : List V} (h : FlL μ K vs ts) (hk : K ≤ K') : FlL μ K' vs ts := by
 induction h with
 | nil => exact .nil
 | cons a _ ih => exact .cons (a.mono hk) ih
theorem FlL.app {μ : Mem} {K : Nat} {a b c d : List V} (h : FlL μ K a b) (g : FlL μ K c d) : FlL μ K (a ++ c) (b ++ d) := by
 induction h with
 | nil => exact g
 | cons a _ ih => exact .cons a ih
theorem FlL.flat {μ : Mem} {K : Nat} {vs ts : List V} (h : FlL μ K vs ts) : ∀ n, K + vs.length + 1 ≤ n → flatL n μ vs = some ts := by
 induction h with
 | nil =>
   intro n hn
   obtain ⟨n, rfl, _⟩ := succ_of (n := 0) (D := n) (by lia)
   rfl
 | @cons v t vs ts a _ ih =>
   intro n hn
   simp only [List.length_cons] at hn
   obtain ⟨n, rfl, h'⟩ := succ_of (n := K + (vs.length + 1)) (D := n) (by lia)
   show ((Mine.flat n μ v).bind fun x => (flatL n μ vs).map fun xs => x :: xs) = _
   rw [a n (by lia), ih n (by lia)]; rfl
theorem Fl.str (μ : Mem) (s : List Nat) : Fl μ 1 (.str s) (.str s) := fun n hn => by
 obtain ⟨n, rfl, _⟩ := succ_of (n := 0) (D := n) (by lia)
 rfl
theorem Fl.tup {μ : Mem} {K : Nat} {vs ts : List V} (h : FlL μ K vs ts) : Fl μ (K + vs.length + 2) (.tup vs) (.tup ts) := fun n hn => by
 obtain ⟨n, rfl, h'⟩ := succ_of (n := K + vs.length + 1) (D := n) (by lia)
 simp only [flat]
 rw [h.flat n h']
 rfl
theorem Fl.il {μ : Mem} {K : Nat} {vs ts : List V} (h : FlL μ K vs ts) : Fl μ (K + vs.length + 2) (.il vs) (.il ts) := fun n hn => by
 obtain ⟨n, rfl, h'⟩ := succ_of (n := K + vs.length + 1) (D := n) (by lia)
 simp only [flat]
 rw [h.flat n h']
 rfl
theorem Fl.ref {μ : Mem} {K r : Nat} {vs ts : List V} (hr : μ[r]? = some vs) (h : FlL μ K vs ts) : Fl μ (K + vs.length + 2) (.ref r) (.il ts) := fun n hn => by
 obtain ⟨n, rfl, h'⟩ := succ_of (n := K + vs.length + 1) (D := n) (by lia)
 show ((μ[r]?).bind fun vs => (flatL n μ vs).map V.il) = _
 rw [hr, Option.bind_some, h.flat n h']
 rfl
theorem fl_two (μ : Mem) (a b : List Nat) : Fl μ 5 (.tup [.str a, .str b]) (.tup [.str a, .str b]) :=
 Fl.tup (K := 1) (.cons (Fl.str μ a) (.cons (Fl.str μ b) .nil))
theorem fl_three {μ : Mem} {K : Nat} {a b : List Nat} {v t : V} (h : Fl μ K v t) (hK : 1 ≤ K) : Fl μ (K + 5) (.tup [.str a, .str b, v]) (.tup [.str a, .str b, t]) :=
 Fl.tup (K := K) (.cons ((Fl.str μ a).mono hK) (.cons ((Fl.str μ b).mono hK) (.cons h .nil)))
theorem needs_pos : ∀ q : List Part, 4 ≤ needs q
 | [] => by simp [needs]
 | p :: q => by have := needs_pos q; simp [needs]; lia
mutual
theorem PV.fl {L : List Nat} {μ : Mem} : ∀ {v : V} {p : Part}, PV L μ v p → Fl μ (need p) v (vl p)
 | _, _, .text t => by simp only [need, vl]; exact fl_two μ _ _
 | _, _, .expr t => by simp only [need, vl]; exact fl_two μ _ _
 | _, _, .case (m := m) (q := q) (vs := vs) h1 h2 h3 => by
   have h := PVs.fl h3
   have hl := h3.len
   rw [List.reverse_reverse] at h
   rw [List.length_reverse] at hl
   have h4 := fl_three (a := cs) (b := m) (Fl.ref h2 h) (by lia)
   simp only [need, vl]
   exact h4.mono (by lia)
theorem PVs.fl {L : List Nat} {μ : Mem} : ∀ {vs : List V} {q : List Part}, PVs L μ vs q → FlL μ (needs q) vs.reverse (vls q)
 | _, _, .nil => by simp only [vls]; exact .nil
 | _, _, .cons (p := p) (q := q) h1 h2 => by
   have a := PV.fl h1
   have b := PVs.fl h2
   simp only [vls, needs, List.reverse_cons]
   exact (b.mono (Nat.le_max_right _ _)).app (.cons (a.mono (Nat.le_max_left _ _)) .nil)
end
mutual
theorem fl_vl (μ : Mem) : ∀ p : Part, Fl μ (need p) (vl p) (vl p)
 | .text t => by simp only [need, vl]; exact fl_two μ _ _
 | .expr t => by simp only [need, vl]; exact fl_two μ _ _
 | .case m q => by
   have h := fl_vls μ q
   have h4 := fl_three (a := cs) (b := m) (Fl.il h) (by lia)
   rw [vls_len] at h4
   simp only [need, vl]
   exact h4.mono (by lia)
theorem fl_vls (μ : Mem) : ∀ q : List Part, FlL μ (needs q) (vls q) (vls q)
 | [] => by simp only [vls]; exact .nil
 | p :: q => by
   have a := fl_vl μ p
   have b := fl_vls μ q
   simp only [vls, needs]
   exact (b.mono (Nat.le_max_right _ _)).app (.cons (a.mono (Nat.le_max_left _ _)) .nil)
end
theorem eq_parts {L : List Nat} {μ : Mem} {p f : Nat} {vs : List V} {q : List Part} (h1 : μ[p]? = some vs) (h2 : PVs L μ vs.reverse q) (h3 : μ[f]? = some (vls q)) (hn : needs q + q.length + 2 ≤ 60) : eqL μ (.ref p) (.ref f) = some true := by
 have hl := h2.len
 rw [List.length_reverse] at hl
 have a := h2.fl
 rw [List.reverse_reverse] at a
 have f1 := Fl.ref h1 a 60 (by lia)
 have f2 := Fl.ref h3 (fl_vls μ q) 60 (by rw [vls_len]; lia)
 exact eq_same h1 h3 (by rw [vls_len, hl]) f1 f2
theorem ix_m1 {μ : Mem} {f : Nat} {vs : List V} (h : μ[f]? = some vs) : idxV μ (.ref f) (.int (-1)) = vs.getLast? := by
 show (μ[f]?).bind (fun vs => pyAt vs (-1)) = _
 rw [h, Option.bind_some, pyAt, if_neg (by decide), if_pos rfl]
theorem put_m1 {μ : Mem} {p : Nat} {W : List V} {v1 v : V} (h : μ[p]? = some (W ++ [v1])) : putV μ (.ref p) (.int (-1)) v = some (μ.set p (W ++ [v])) := by
 have e : pyPut (W ++ [v1]) (-1) v = some (W ++ [v]) := by
   unfold pyPut
   rw [if_neg (fun q => absurd q.1 (by decide)), if_pos ⟨rfl, by rw [List.length_append]; exact Nat.succ_pos _⟩, List.length_append]
   show some ((W ++ [v1]).set W.length v) = _
   rw [List.set_append_right _ _ (Nat.le_refl _), Nat.sub_self]; rfl
 show (μ[p]?).bind (fun vs => (pyPut vs (-1) v).map fun ws => μ.set p ws) = _
 rw [h, Option.bind_some, e]; rfl
theorem vl_head (p : Part) : ∃ k r, vl p = .tup (.str k :: r) ∧ (k = tx ↔ isText p = true) := by
 cases p with
 | text t => exact ⟨tx, [.str t], rfl, fun _ => rfl, fun _ => rfl⟩
 | expr t => exact ⟨ex, [.str t], rfl, fun z => absurd z (by decide), fun z => nomatch z⟩
 | case m q => exact ⟨cs, [.str m, .il (vls q)], rfl, fun z => absurd z (by decide), fun z => nomatch z⟩
theorem join_inv (q : List Part) (p : Part) : (∃ u q0 t, q = .text u :: q0 ∧ p = .text t ∧ joinStep q p = .text (u ++ t) :: q0) ∨ joinStep q p = p :: q ∧ (isText p = true → ∀ x q0, q = x :: q0 → isText x = false) := by
 cases p with
 | text t =>
   cases q with
   | nil => exact .inr ⟨rfl, fun _ _ _ z => nomatch z⟩
   | cons x q =>
     cases x with
     | text u => exact .inl ⟨u, q, t, rfl, rfl, rfl⟩
     | expr u => exact .inr ⟨rfl, fun _ _ _ z => (List.cons.inj z).1 ▸ rfl⟩
     | case m u => exact .inr ⟨rfl, fun _ _ _ z => (List.cons.inj z).1 ▸ rfl⟩
 | expr t => exact .inr ⟨by cases q with | nil => rfl | cons x q => cases x <;> rfl, fun z => nomatch z⟩
 | case m t => exact .inr ⟨by cases q with | nil => rfl | cons x q => cases x <;> rfl, fun z => nomatch z⟩
theorem last_vl {q : List Part} (hno : ∀ x q0, q = x :: q0 → isText x = false) : vls q = [] ∨ ∃ W k1 r1, vls q = W ++ [.tup (.str k1 :: r1)] ∧ k1 ≠ tx := by
 cases q with
 | nil => exact .inl rfl
 | cons x q =>
   obtain ⟨k, r, e, hk⟩ := vl_head x
   exact .inr ⟨vls q, k, r, e ▸ rfl, fun z => by have := hno _ _ rfl; rw [hk.mp z] at this; cases this⟩
section
variable {Φ : OK} {f : Nat} {a : Option V} {l : Loc} {μ : Mem} {W vs : List V} {v : V} {u t k : List Nat} {r : List V}
theorem x_m1 {i : Nat} (h : xE Φ (.loc i) l μ = .ok (.ref f) μ) (hm : μ[f]? = some (W ++ [v])) : xE Φ (.idx (.loc i) (.neg (.int 1))) l μ = .ok v μ :=
 x_idx (y := .int (-1)) h rfl ((ix_m1 hm).trans (List.getLast?_concat ..))
theorem x_neN {i : Nat} (h : xE Φ (.loc i) l μ = .ok (.ref f) μ) (hm : μ[f]? = some vs) : xE Φ (.cmp .ne (.loc i) (.il .nil)) l μ = .ok (.bool (!vs.isEmpty)) μ := by
 rw [e_cmp, h, ob_ok, cmpK_r, show xE Φ (.il .nil) l μ = .ok (.il []) μ from rfl, ob_ok1, cmpK2_r, cmp_ne_nil hm]; rfl
theorem ne_last : (!(W ++ [v]).isEmpty) = true := by cases W <;> rfl
theorem jb_join (h : μ[f]? = some (W ++ [.tup [.str tx, .str u]])) (hle : u.length + t.length ≤ 100000) :
   xSs Φ f_law_joined_b1 [a, some (.ref f), some (.tup [.str tx, .str t])] μ = .next [a, some (.ref f), some (.tup [.str tx, .str t])] (μ.set f (W ++ [.tup [.str tx, .str (u ++ t)]])) :=
 z_t (P := fun x => x) (x_and3 (p := true) (q := true) (t := true) (x_eq (t := tx) rfl) (by rw [← ne_last]; exact x_neN rfl h) (x_eq (t := tx) (x_idx (x_m1 rfl h) rfl rfl)))
   (z_st (s_put (x_tup2 rfl (x_bin (x_idx (x_m1 rfl h) rfl rfl) rfl (bin_tx (μ := μ) hle))) rfl rfl (put_m1 h)) rfl)
theorem jb_app (h : μ[f]? = some vs) (hl : vs.length < 1048576) (hc : k = tx → vs = [] ∨ ∃ W k1 r1, vs = W ++ [.tup (.str k1 :: r1)] ∧ k1 ≠ tx) :
   xSs Φ f_law_joined_b1 [a, some (.ref f), some (.tup (.str k :: r))] μ = .next [a, some (.ref f), some (.tup (.str k :: r))] (μ.set f (vs ++ [.tup (.str k :: r)])) := by
 refine z_e (P := fun x => x) (μ' := μ) ?_ (z_st (s_app rfl rfl (app_r h hl)) rfl)
 by_cases hk : k = tx
 · refine x_andT (x_eqT rfl hk) ?_
   rcases hc hk with rfl | ⟨W, k1, r1, rfl, hk1⟩
   · exact x_andF (x_neN rfl h)
   · exact x_andT (by rw [← ne_last]; exact x_neN rfl h) (x_and1 (x_eqF (x_idx (x_m1 rfl h) rfl rfl) hk1))
 · exact x_andF (x_eqF rfl hk)
end
theorem joined_body {Φ : OK} {f : Nat} {a : Option V} {μ : Mem} {q : List Part} {p : Part} (h : μ[f]? = some (vls q)) (hs : sz q + szp p ≤ 100000) :
   xSs Φ f_law_joined_b1 [a, some (.ref f), some (vl p)] μ = .next [a, some (.ref f), some (vl p)] (μ.set f (vls (joinStep q p))) := by
 rcases join_inv q p with ⟨u, q0, t, rfl, rfl, e⟩ | ⟨e, hno⟩
 · rw [e]
   exact jb_join h (by rw [sz_cons] at hs; simp only [szp] at hs; lia)
 · obtain ⟨k, r, hk, hkt⟩ := vl_head p
   rw [e, show vls (p :: q) = vls q ++ [vl p] from rfl, hk]
   exact jb_app h (by have := sz_len q; rw [vls_len]; lia) fun z => last_vl (hno (hkt.mp z))
theorem joined_loop {d f : Nat} {a : Option V} {st : Mem → Prop} (hst : ∀ μ, st μ) : ∀ (ps q : List Part) (μ : Mem) (x : Option V), μ[f]? = some (vls q) → sz q + sz ps ≤ 100000 →
   ∃ y, forS (evCall fnTab d) f_law_joined_b1 2 st (ps.map vl) [a, some (.ref f), x] μ = .next [a, some (.ref f), y] (μ.set f (vls (joins q ps)))
 | [], q, μ, x, h, _ => ⟨x, by
   have hlt : f < μ.length := (List.getElem?_eq_some_iff.mp h).1
   have : μ.set f (vls q) = μ := by
     apply List.ext_getElem?
     intro i
     by_cases z : f = i
     · subst z; rw [List.getElem?_set_self hlt, h]
     · rw [List.getElem?_set_ne z]
   simp [this]⟩
 | p :: ps, q, μ, x, h, hs => by
   rw [sz_cons] at hs
   have hb := joined_body (Φ := evCall fnTab d) (a := a) h (p := p) (by lia)
   have hlt : f < μ.length := (List.getElem?_eq_some_iff.mp h).1
   have h1 : (μ.set f (vls (joinStep q p)))[f]? = some (vls (joinStep q p)) := List.getElem?_set_self hlt
   obtain ⟨y, ih⟩ := joined_loop hst ps (joinStep q p) _ (some (vl p)) h1 (by have := join_sz q p; lia)
   refine ⟨y, ?_⟩
   rw [List.map_cons, forS_cons]
   have e : ([a, some (V.ref f), x] : Loc).set 2 (some (vl p)) = [a, some (.ref f), some (vl p)] := rfl
   rw [e, hb, bodyK_next, only_t (hst _), ih, List.set_set]
   rfl
theorem c_joined {D : Nat} (hD : 1 ≤ D) {ps : List Part} {μ : Mem} (hs : sz ps ≤ 100000) : evCall fnTab D 39 [.il (ps.map vl)] μ = .ok (.ref μ.length) (μ ++ [vls (joins [] ps)]) := by
 obtain ⟨d, rfl, _⟩ := succ_of (n := 0) hD
 rw [evCall_succ rfl]
 refine run_fn rfl ?_
 have h0 : (μ ++ [([] : List V)])[μ.length]? = some (vls []) := by simp [vls]
 obtain ⟨y, hl⟩ := joined_loop (d := d) (a := some (.il (ps.map vl))) (st := stays (.il (ps.map vl)) (ps.map vl)) (fun _ => trivial) ps [] (μ ++ [[]]) none h0 (by simpa [sz_nil] using hs)
 have e : (μ ++ [([] : List V)]).set μ.length (vls (joins [] ps)) = μ ++ [vls (joins [] ps)] := by simp
 rw [e] at hl
 have hi : ∀ μ, itemsOf μ (.il (ps.map vl)) = some (ps.map vl) := fun _ => rfl
 simp [f_law_joined, al_nil, hi, hl]
noncomputable def Pot (n : Nat) (μ : Mem) : Prop := ∃ cells : List Int, μ[0]? = some (cells.map V.int) ∧ μ[1]? = some [.ref 0, .int (n : Nat)]
theorem Pot.keep {n : Nat} {μ μ' : Mem} (h : Pot n μ) (k : Keep μ.length μ μ') : Pot n μ' := by
 obtain ⟨c, h0, h1⟩ := h
 have l1 : 1 < μ.length := (List.getElem?_eq_some_iff.mp h1).1
 exact ⟨c, by rw [k.1 0 (by lia)]; exact h0, by rw [k.1 1 l1]; exact h1⟩
theorem put_at {μ : Mem} {p : Nat} {a b v : V} (h : μ[p]? = some [a, b]) : putV μ (.ref p) (.int 1) v = some (μ.set p [a, v]) := by
 show (μ[p]?).bind (fun vs => (pyPut vs 1 v).map fun ws => μ.set p ws) = _
 rw [h]; rfl
theorem c_lot {D n : Nat} (hD : 1 ≤ D) (hn : n ≤ 1000) {μ : Mem} (h : Pot n μ) (m : Nat) (hm : 0 < m) {i : Int} (hi : i = (m : Nat)) : ∃ k μ', evCall fnTab D 32 [.ref 1, .int i] μ = .ok (.int (k : Nat)) μ' ∧ k < m ∧ Pot (n + 1) μ' := by
 obtain ⟨d, rfl, _⟩ := succ_of (n := 0) hD
 obtain ⟨c, h0, h1⟩ := h
 have l1 : 1 < μ.length := (List.getElem?_eq_some_iff.mp h1).1
 have a0 : (μ.set 1 [.ref 0, .int ((n + 1 : Nat) : Int)])[0]? = some (c.map V.int) := by rw [List.getElem?_set_ne (by decide)]; exact h0
 have a1 : (μ.set 1 [.ref 0, .int ((n + 1 : Nat) : Int)])[1]? = some [.ref 0, .int ((n + 1 : Nat) : Int)] := List.getElem?_set_self l1
 have hput := put_at (v := .int ((n + 1 : Nat) : Int)) h1
 have x1 : idxV μ (.ref 1) (.int 1) = some (.int (n : Nat)) := by
   have := ix_r (n := 1) h1
   exact this
 have hP : Pot (n + 1) (μ.set 1 [.ref 0, .int ((n + 1 : Nat) : Int)]) := ⟨c, a0, a1⟩
 have x0 := ix_r0 a1
 have hlen := bi_len_r a0
 simp only [List.length_map] at hlen
 have key : ∀ x : Int, ∃ k : Nat, k < m ∧ x % i = ((k : Nat) : Int) := fun x => by
   subst hi
   have h1 := Int.emod_nonneg x (b := (m : Int)) (by lia)
   have h2 := Int.emod_lt_of_pos x (b := (m : Int)) (by lia)
   exact ⟨(x % (m : Int)).toNat, by lia, by lia⟩
 have hi0 : 0 < i := by lia
 by_cases z : n < c.length
 · obtain ⟨k, k1, k2⟩ := key (c[n])
   refine ⟨k, _, ?_, k1, hP⟩
   have xc : idxV (μ.set 1 [.ref 0, .int ((n + 1 : Nat) : Int)]) (.ref 0) (.int (n : Nat)) = some (.int c[n]) := by rw [ix_r a0]; simp [-Int.natCast_add, z]
   rw [evCall_succ rfl]
   refine run_fn rfl ?_
   generalize μ.set 1 [.ref 0, .int ((n + 1 : Nat) : Int)] = μ1 at *
   simp [-Int.natCast_add, f_law_lot, x1, hput, x0, hlen, z, xc, bin_mod_ii hi0, k2]
 · obtain ⟨k, k1, k2⟩ := key (3 * (n : Int) * (n : Int) + 5 * (n : Int) + 1)
   refine ⟨k, _, ?_, k1, hP⟩
   have hq : (3 * (n : Int) * (n : Int)) = ((3 * n * n : Nat) : Int) := by simp [-Int.natCast_add, Int.natCast_mul]
   have m1 : binV .mul (.int 3) (.int (n : Int)) = some (.int (3 * (n : Int))) := bin_mul_ii (by decide) (by lia)
   have m2 : binV .mul (.int (3 * (n : Int))) (.int (n : Int)) = some (.int (3 * (n : Int) * (n : Int))) := bin_mul_ii (by lia) (by lia)
   have m3 : binV .mul (.int 5) (.int (n : Int)) = some (.int (5 * (n : Int))) := bin_mul_ii (by decide) (by lia)
   rw [evCall_succ rfl]
   refine run_fn rfl ?_
   generalize μ.set 1 [.ref 0, .int ((n + 1 : Nat) : Int)] = μ1 at *
   have hput' : putV μ (.ref 1) (.int 1) (.int ((n : Int) + 1)) = some μ1 := hput
   simp [-Int.natCast_add, f_law_lot, x1, hput', x0, hlen, z, m1, m2, m3, bin_mod_ii hi0, k2, -ic1]
noncomputable def PotL (b : Nat) (μ : Mem) : Prop := ∃ n, n ≤ b ∧ Pot n μ
theorem PotL.keep {n : Nat} {μ μ' : Mem} (h : PotL n μ) (k : Keep μ.length μ μ') : PotL n μ' := by
 obtain ⟨m, h1, h2⟩ := h
 exact ⟨m, h1, h2.keep k⟩
theorem PotL.mono {n n' : Nat} {μ : Mem} (h : PotL n μ) (k : n ≤ n') : PotL n' μ := by
 obtain ⟨m, h1, h2⟩ := h
 exact ⟨m, by lia, h2⟩
theorem lot {D n : Nat} (hD : 1 ≤ D) (hn : n ≤ 1000) {μ : Mem} (h : PotL n μ) (m : Nat) (hm : 0 < m) {i : Int} (hi : i = (m : Nat)) : ∃ k μ', evCall fnTab D 32 [.ref 1, .int i] μ = .ok (.int (k : Nat)) μ' ∧ k < m ∧ PotL (n + 1) μ' := by
 obtain ⟨n', h1, h2⟩ := h
 obtain ⟨k, μ', a, b, c⟩ := c_lot hD (by lia) h2 m hm hi
 exact ⟨k, μ', a, b, n' + 1, by lia, c⟩
noncomputable abbrev smallL : List Nat := [97, 98, 99, 100, 101, 102, 103, 104, 105, 106, 107, 108, 109, 110, 111, 112, 113, 114, 115, 116, 117, 118, 119, 120, 121, 122]
noncomputable abbrev greatL : List Nat := [65, 66, 67, 68, 69, 70, 71, 72, 73, 74, 75, 76, 77, 78, 79, 80, 81, 82, 83, 84, 85, 86, 87, 88, 89, 90]
noncomputable abbrev namedL : List Nat := [95, 48, 49, 50, 51, 52, 53, 54, 55, 56, 57]
theorem g7 {Φ : Nat → List V → Mem → O V} {l : Loc} {μ : Mem} : xE Φ (.gl 7) l μ = .ok (.str smallL) μ := g_at (by rfl)
theorem g8 {Φ : Nat → List V → Mem → O V} {l : Loc} {μ : Mem} : xE Φ (.gl 8) l μ = .ok (.str greatL) μ := g_at (by rfl)
theorem g9 {Φ : Nat → List V → Mem → O V} {l : Loc} {μ : Mem} : xE Φ (.gl 9) l μ = .ok (.str namedL) μ := g_at (by rfl)
noncomputable def signsL : List Nat := smallL ++ greatL ++ [95]
noncomputable def moreL : List Nat := signsL ++ [48, 49, 50, 51, 52, 53, 54, 55, 56, 57]
theorem signs_at {k : Nat} (h : k < 53) : ∃ c, signsL[k]? = some c ∧ start [c] = true ∧ word c = true := by
 have : ∀ k : Fin 53, (match signsL[k.1]? with | some c => start [c] && word c | none => false) = true := by decide
 have h1 := this ⟨k, h⟩
 dsimp only at h1
 cases h2 : signsL[k]? with
 | none => rw [h2] at h1; cases h1
 | some c =>
   rw [h2] at h1
   simp at h1
   exact ⟨c, rfl, h1.1, h1.2⟩
theorem more_at {k : Nat} (h : k < 63) : ∃ c, moreL[k]? = some c ∧ word c = true := by
 have : ∀ k : Fin 63, (match moreL[k.1]? with | some c => word c | none => false) = true := by decide
 have h1 := this ⟨k, h⟩
 dsimp only at h1
 cases h2 : moreL[k]? with
 | none => rw [h2] at h1; cases h1
 | some c =>
   rw [h2] at h1
   exact ⟨c, rfl, h1⟩
theorem bin_ss {a b : List Nat} (h : a.length + b.length ≤ 1000000) : binV .add (.str a) (.str b) = some (.str (a ++ b)) := bin_add_ss (by have : LIM = 1048576 := rfl; lia)
theorem aug_ss {a b : List Nat} (h : a.length + b.length ≤ 1000000) : augV .add (.str a) (.str b) = some (.str (a ++ b)) := aug_add_ss (by have : LIM = 1048576 := rfl; lia)
theorem title_body {d n : Nat} (hd : 1 ≤ d) (hn : n ≤ 1000) {μ : Mem} (h : PotL n μ) {t : List Nat} (ht : t.length ≤ 100) {x : Option V} :
   ∃ c μ', xSs (evCall fnTab d) f_law_title_b1 [some (.ref 1), some (.str signsL), some (.str t), x] μ = .next [some (.ref 1), some (.str signsL), some (.str (t ++ [c])), x] μ' ∧ word c = true ∧ PotL (n + 1) μ' := by
 obtain ⟨k, μ', a, b, c⟩ := lot hd hn h 63 (by decide) (i := 63) rfl
 obtain ⟨s, s1, s2⟩ := more_at b
 refine ⟨s, μ', ?_, s2, c⟩
 have e : binV .add (.str signsL) (.str [48, 49, 50, 51, 52, 53, 54, 55, 56, 57]) = some (.str moreL) := bin_ss (by decide)
 have e2 : idxV μ' (.str moreL) (.int (k : Nat)) = some (.str [s]) := by rw [ix_s, s1]; rfl
 have e3 : augV .add (.str t) (.str [s]) = some (.str (t ++ [s])) := aug_ss (by simp; lia)
 generalize signsL = S at *
 generalize moreL = M at *
 simp [f_law_title_b1, e, a, e2, e3]
theorem title_loop {d : Nat} (hd : 1 ≤ d) : ∀ (xs : List V) (n : Nat) (μ : Mem) (t : List Nat) (x : Option V), n + xs.length ≤ 1000 → PotL n μ → t.length + xs.length ≤ 100 → (∀ c ∈ t, word c = true) →
   ∃ u μ' y, forS (evCall fnTab d) f_law_title_b1 3 (fun _ => True) xs [some (.ref 1), some (.str signsL), some (.str t), x] μ = .next [some (.ref 1), some (.str signsL), some (.str (t ++ u)), y] μ' ∧ u.length = xs.length ∧ (∀ c ∈ u, word c = true) ∧ PotL (n + xs.length) μ'
 | [], n, μ, t, x, _, h, _, _ => ⟨[], μ, x, by simp, rfl, by simp, h⟩
 | v :: xs, n, μ, t, x, hn, h, ht, hw => by
   simp only [List.length_cons] at hn ht
   obtain ⟨c, μ1, a1, a2, a3⟩ := title_body (x := some v) hd (by lia) h (t := t) (by lia)
   obtain ⟨u, μ2, y, b1, b2, b3, b4⟩ := title_loop hd xs (n + 1) μ1 (t ++ [c]) (some v) (by lia) a3 (by simp; lia) (fun x hx => by
     rcases List.mem_append.mp hx with q | q
     · exact hw x q
     · simp at q; subst q; exact a2)
   refine ⟨c :: u, μ2, y, ?_, by simp [b2], fun x hx => ?_, ?_⟩
   · rw [forS_cons]
     have e : ([some (.ref 1), some (.str signsL), some (.str t), x] : Loc).set 3 (some v) = [some (.ref 1), some (.str signsL), some (.str t), some v] := rfl
     rw [e, a1, bodyK_next, only_T, b1]
     simp
   · rcases List.mem_cons.mp hx with rfl | q
     · exact a2
     · exact b3 x q
   · have : n + (v :: xs).length = n + 1 + xs.length := by simp; lia
     rw [this]; exact b4
theorem range_len (k : Nat) : ((List.range k).map fun k => V.int (k : Nat)).length = k := by simp
theorem c_title {D n : Nat} (hD : 2 ≤ D) (hn : n ≤ 900) {μ : Mem} (h : PotL n μ) : ∃ t μ', evCall fnTab D 33 [.ref 1] μ = .ok (.str t) μ' ∧ Title t ∧ PotL (n + 4) μ' := by
 obtain ⟨d, rfl, hd⟩ := succ_of (n := 1) hD
 obtain ⟨k, μ1, a, b, c⟩ := lot hd (by lia) h 53 (by decide) (i := 53) rfl
 obtain ⟨s, s1, s2, s3⟩ := signs_at b
 obtain ⟨k2, μ2, a2, b2, c2⟩ := lot hd (by lia) c 3 (by decide) (i := 3) rfl
 have hrl := range_len k2
 obtain ⟨u, μ3, y, l1, l2, l3, l4⟩ := title_loop hd ((List.range k2).map fun k => V.int (k : Nat)) (n + 2) μ2 [s] none (by rw [hrl]; lia) c2 (by rw [hrl]; simp; lia) (by simpa using s3)
 rw [hrl] at l2 l4
 refine ⟨[s] ++ u, μ3, ?_, ⟨?_, ?_, by simp; lia⟩, l4.mono (by lia)⟩
 · rw [evCall_succ rfl]
   refine run_fn rfl ?_
   have e0 : binV .add (.str smallL) (.str greatL) = some (.str (smallL ++ greatL)) := bin_ss (by decide)
   have e1 : binV .add (.str (smallL ++ greatL)) (.str [95]) = some (.str signsL) := bin_ss (by decide)
   have e2 : idxV μ1 (.str signsL) (.int (k : Nat)) = some (.str [s]) := by rw [ix_s, s1]; rfl
   have e3 : (0 : Int) ≤ (k2 : Nat) ∧ ((k2 : Nat) : Int) < 1000000 := by lia
   have g7' := @g7
   have g8' := @g8
   generalize smallL ++ greatL = SG at e0 e1
   generalize smallL = S7 at e0 g7'
   generalize greatL = S8 at e0 g8'
   generalize signsL = S at *
   simp [f_law_title, g7', g8', e0, e1, a, e2, a2, e3, l1]
 · simp only [start] at s2 ⊢
   simpa using s2
 · intro c hc
   rcases List.mem_append.mp hc with q | q
   · simp at q; subst q; exact s3
   · exact l3 c q
theorem run_body {d n : Nat} (hd : 1 ≤ d) (hn : n ≤ 1000) {μ : Mem} (h : PotL n μ) {t : List Nat} (ht : t.length ≤ 100) {x y : Option V} :
   ∃ c μ' y', xSs (evCall fnTab d) f_law_run_b1 [some (.ref 1), some (.str t), x, y] μ = .next [some (.ref 1), some (.str (t ++ [c])), x, y'] μ' ∧ (33 ≤ c ∧ c ≤ 126 ∧ c ≠ 36 ∧ c ≠ 64 ∧ c ≠ 92) ∧ PotL (n + 1) μ' := by
 obtain ⟨k, μ', a, b, c⟩ := lot hd hn h 94 (by decide) (i := 94) rfl
 have ec : biV μ' .chr [.int (33 + (k : Int))] = some (.str [33 + k]) := by
   rw [show (33 + (k : Int)) = ((33 + k : Nat) : Int) from by lia]
   exact bi_chr (by lia)
 have e3 : ∀ s, augV .add (.str t) (.str [s]) = some (.str (t ++ [s])) := fun s => aug_ss (by simp; lia)
 have q1 : cmpV μ' .isIn (.str [33 + k]) (.str [36, 64, 92]) = some ([36, 64, 92].contains (33 + k)) := cmp_in_cs _ _
 cases hb : [36, 64, 92].contains (33 + k) with
 | true =>
   rw [hb] at q1
   refine ⟨126, μ', some (.str [33 + k]), ?_, by decide, c⟩
   simp [f_law_run_b1, a, ec, q1, e3, -cmp_in_cs]
 | false =>
   rw [hb] at q1
   refine ⟨33 + k, μ', some (.str [33 + k]), ?_, ?_, c⟩
   · simp [f_law_run_b1, a, ec, q1, e3, -cmp_in_cs]
   · simp at hb
     lia
theorem run_loop {d : Nat} (hd : 1 ≤ d) : ∀ (xs : List V) (n : Nat) (μ : Mem) (t : List Nat) (x y : Option V), n + xs.length ≤ 1000 → PotL n μ → t.length + xs.length ≤ 100 →
   ∃ u μ' x' y', forS (evCall fnTab d) f_law_run_b1 2 (fun _ => True) xs [some (.ref 1), some (.str t), x, y] μ = .next [some (.ref 1), some (.str (t ++ u)), x', y'] μ' ∧ u.length = xs.length ∧ (∀ c ∈ u, 33 ≤ c ∧ c ≤ 126 ∧ c ≠ 36 ∧ c ≠ 64 ∧ c ≠ 92) ∧ PotL (n + xs.length) μ'
 | [], n, μ, t, x, y, _, h, _ => ⟨[], μ, x, y, by simp, rfl, by simp, h⟩
 | v :: xs, n, μ, t, x, y, hn, h, ht => by
   simp only [List.length_cons] at hn ht
   obtain ⟨c, μ1, y1, a1, a2, a3⟩ := run_body (x := some v) (y := y) hd (by lia) h (t := t) (by lia)
   obtain ⟨u, μ2, x2, y2, b1, b2, b3, b4⟩ := run_loop hd xs (n + 1) μ1 (t ++ [c]) (some v) y1 (by lia) a3 (by simp; lia)
   refine ⟨c :: u, μ2, x2, y2, ?_, by simp [b2], fun x hx => ?_, ?_⟩
   · rw [forS_cons]
     have e : ([some (.ref 1), some (.str t), x, y] : Loc).set 2 (some v) = [some (.ref 1), some (.str t), some v, y] := rfl
     rw [e, a1, bodyK_next, only_T, b1]
     simp
   · rcases List.mem_cons.mp hx with rfl | q
     · exact a2
     · exact b3 x q
   · have : n + (v :: xs).length = n + 1 + xs.length := by simp; lia
     rw [this]; exact b4
theorem c_run {D n : Nat} (hD : 2 ≤ D) (hn : n ≤ 900) {μ : Mem} (h : PotL n μ) : ∃ w μ', evCall fnTab D 37 [.ref 1] μ = .ok (.str w) μ' ∧ RunW w ∧ PotL (n + 5) μ' := by
 obtain ⟨d, rfl, hd⟩ := succ_of (n := 1) hD
 obtain ⟨k, μ1, a, b, c⟩ := lot hd (by lia) h 4 (by decide) (i := 4) rfl
 have hrl := range_len (1 + k)
 obtain ⟨u, μ3, x, y, l1, l2, l3, l4⟩ := run_loop hd ((List.range (1 + k)).map fun k => V.int (k : Nat)) (n + 1) μ1 [] none none (by rw [hrl]; lia) c (by rw [hrl]; simp; lia)
 rw [hrl] at l2 l4
 refine ⟨u, μ3, ?_, ⟨l3, fun z => ?_, by lia⟩, l4.mono (by lia)⟩
 · rw [evCall_succ rfl]
   refine run_fn rfl ?_
   have e1 : (1 : Int) + (k : Int) = ((1 + k : Nat) : Int) := by lia
   have e3 : (0 : Int) ≤ ((1 + k : Nat) : Int) ∧ (((1 + k : Nat)) : Int) < 1000000 := by lia
   generalize 1 + k = j at *
   simp [f_law_run, a, e1, e3, l1]
 · subst z
   simp at l2
   lia
theorem e_map {Φ : OK} {elt : E} {t : List Nat} {l : Loc} {μ : Mem} {f : Nat → V} (hl : t.length ≤ 1000) (hc : ∀ c ∈ t, ∀ μ', xE Φ elt [some (.str [c])] μ' = .ok (f c) μ') :
   xE Φ (.comp [] elt (.loc 0) (.bool true)) (some (.str t) :: l) μ = .ok (.ref μ.length) (μ ++ [t.map f]) := by
 have e := e_run (caps := []) (C := .bool true) (h := fun c => V.str [c]) (fun _ => true) (show xE Φ (.loc 0) (some (.str t) :: l) μ = .ok (.str t) μ from rfl) rfl (fun ws => trivial) hl (fun _ _ _ => rfl) hc
 rw [List.filter_eq_self.mpr fun _ _ => rfl] at e; exact e
theorem joinV_map (t : List Nat) (f : Nat → List Nat) : joinV (t.map fun c => V.str (f c)) = some (t.flatMap f) := by
 induction t with
 | nil => rfl
 | cons c t ih => simp [joinV, ih]
theorem me_join {μ : Mem} {r : Nat} {t : List Nat} {f : Nat → List Nat} (h : μ[r]? = some (t.map fun c => V.str (f c))) (hl : (t.flatMap f).length ≤ 100000) : methV μ .join (.str []) [.ref r] = .ok (.str (t.flatMap f)) μ := by
 show O.lift ((((μ[r]?).bind joinV).bind fun r => when (r.length ≤ LIM) (V.str r))) μ = _
 rw [h, Option.bind_some, joinV_map, Option.bind_some, when_r, if_pos (Nat.le_trans hl (by decide))]
 rfl
theorem flat_one (t : List Nat) (g : Nat → Nat) : (t.flatMap fun c => [g c]) = t.map g := by
 induction t with
 | nil => rfl
 | cons c t ih => simp [ih]
theorem small_has (c : Nat) : smallL.contains c = decide (97 ≤ c ∧ c ≤ 122) :=
 has_of (S := smallL) (p := fun c => decide (97 ≤ c ∧ c ≤ 122)) (by decide +kernel) (by decide) (fun c hc => decide_eq_false (fun h => absurd (Nat.le_trans hc h.2) (by decide))) c
theorem great_has (c : Nat) : greatL.contains c = decide (65 ≤ c ∧ c ≤ 90) :=
 has_of (S := greatL) (p := fun c => decide (65 ≤ c ∧ c ≤ 90)) (by decide +kernel) (by decide) (fun c hc => decide_eq_false (fun h => absurd (Nat.le_trans hc h.2) (by decide))) c
theorem all_has (c : Nat) : (smallL ++ greatL ++ namedL).contains c = word c := by
 refine has_of (S := smallL ++ greatL ++ namedL) (p := word) (by decide +kernel) (by decide) (fun c hc => ?_) c
 cases h : word c with
 | false => rfl
 | true =>
   have := (word_iff c).mp h
   lia
theorem up_at {c : Nat} (h : 97 ≤ c ∧ c ≤ 122) {μ : Mem} : ∃ i : Int, methV μ .find (.str smallL) [.str [c]] = .ok (.int i) μ ∧ ∀ μ', idxV μ' (.str greatL) (.int i) = some (.str [gr c]) := by
 have key : ∀ k : Fin 26, findC (97 + k.1) smallL 0 = ((k.1 : Nat) : Int) ∧ greatL[k.1]? = some (gr (97 + k.1)) := by decide +kernel
 obtain ⟨k, rfl⟩ : ∃ k, c = 97 + k := ⟨c - 97, by lia⟩
 have := key ⟨k, by lia⟩
 dsimp only at this
 refine ⟨((k : Nat) : Int), ?_, fun μ' => ?_⟩
 · show O.lift (some (V.int (findC _ _ 0))) μ = _
   rw [this.1]; rfl
 · rw [ix_s, this.2]
   rfl
theorem low_at {c : Nat} (h : 65 ≤ c ∧ c ≤ 90) {μ : Mem} : ∃ i : Int, methV μ .find (.str greatL) [.str [c]] = .ok (.int i) μ ∧ ∀ μ', idxV μ' (.str smallL) (.int i) = some (.str [sm c]) := by
 have key : ∀ k : Fin 26, findC (65 + k.1) greatL 0 = ((k.1 : Nat) : Int) ∧ smallL[k.1]? = some (sm (65 + k.1)) := by decide +kernel
 obtain ⟨k, rfl⟩ : ∃ k, c = 65 + k := ⟨c - 65, by lia⟩
 have := key ⟨k, by lia⟩
 dsimp only at this
 refine ⟨((k : Nat) : Int), ?_, fun μ' => ?_⟩
 · show O.lift (some (V.int (findC _ _ 0))) μ = _
   rw [this.1]; rfl
 · rw [ix_s, this.2]
   rfl
theorem c_upper {D : Nat} (hD : 1 ≤ D) {t : List Nat} (ht : t.length ≤ 1000) {μ : Mem} : ∃ μ', evCall fnTab D 34 [.str t] μ = .ok (.str (t.map gr)) μ' ∧ Keep μ.length μ μ' := by
 obtain ⟨d, rfl, _⟩ := succ_of (n := 0) hD
 refine ⟨μ ++ [t.map fun c => V.str [gr c]], ?_, Keep.alloc (Nat.le_refl _) _⟩
 rw [evCall_succ rfl]
 refine run_fn rfl ?_
 have hm := e_map (Φ := evCall fnTab d) (t := t) (l := []) (μ := μ) (f := fun c => .str [gr c]) ht (elt := .ite (.cmp .isIn (.loc 0) (.gl 7)) (.idx (.gl 8) (.me .find (.gl 7) (.cons (.loc 0) .nil))) (.loc 0)) (fun c _ μ' => by
   have q1 : cmpV μ' .isIn (.str [c]) (.str smallL) = some (decide (97 ≤ c ∧ c ≤ 122)) := by rw [cmp_in_cs, small_has]
   have g7' := @g7
   have g8' := @g8
   by_cases h : 97 ≤ c ∧ c ≤ 122
   · obtain ⟨i, h1, h2⟩ := up_at (μ := μ') h
     generalize smallL = S7 at *
     generalize greatL = S8 at *
     simp [g7', g8', q1, h, okMe, h1, h2, -cmp_in_cs]
   · have hg : gr c = c := by unfold gr; rw [if_neg h]
     generalize smallL = S7 at *
     generalize greatL = S8 at *
     simp [g7', g8', q1, h, hg, -cmp_in_cs])
 have hj := me_join (μ := μ ++ [t.map fun c => V.str [gr c]]) (r := μ.length) (t := t) (f := fun c => [gr c]) (by simp) (by rw [flat_one]; simp; lia)
 rw [flat_one] at hj
 simp [f_law_upper, okMe, hm, hj]
theorem c_lower {D : Nat} (hD : 1 ≤ D) {t : List Nat} (ht : t.length ≤ 1000) {μ : Mem} : ∃ μ', evCall fnTab D 35 [.str t] μ = .ok (.str (t.map sm)) μ' ∧ Keep μ.length μ μ' := by
 obtain ⟨d, rfl, _⟩ := succ_of (n := 0) hD
 refine ⟨μ ++ [t.map fun c => V.str [sm c]], ?_, Keep.alloc (Nat.le_refl _) _⟩
 rw [evCall_succ rfl]
 refine run_fn rfl ?_
 have hm := e_map (Φ := evCall fnTab d) (t := t) (l := []) (μ := μ) (f := fun c => .str [sm c]) ht (elt := .ite (.cmp .isIn (.loc 0) (.gl 8)) (.idx (.gl 7) (.me .find (.gl 8) (.cons (.loc 0) .nil))) (.loc 0)) (fun c _ μ' => by
   have q1 : cmpV μ' .isIn (.str [c]) (.str greatL) = some (decide (65 ≤ c ∧ c ≤ 90)) := by rw [cmp_in_cs, great_has]
   have g7' := @g7
   have g8' := @g8
   by_cases h : 65 ≤ c ∧ c ≤ 90
   · obtain ⟨i, h1, h2⟩ := low_at (μ := μ') h
     generalize smallL = S7 at *
     generalize greatL = S8 at *
     simp [g7', g8', q1, h, okMe, h1, h2, -cmp_in_cs]
   · have hg : sm c = c := by unfold sm; rw [if_neg h]
     generalize smallL = S7 at *
     generalize greatL = S8 at *
     simp [g7', g8', q1, h, hg, -cmp_in_cs])
 have hj := me_join (μ := μ ++ [t.map fun c => V.str [sm c]]) (r := μ.length) (t := t) (f := fun c => [sm c]) (by simp) (by rw [flat_one]; simp; lia)
 rw [flat_one] at hj
 simp [f_law_lower, okMe, hm, hj]
theorem guard_len (t : List Nat) : (guard t).length ≤ 2 * t.length := by
 induction t with
 | nil => simp [guard]
 | cons c t ih =>
   have : (guardC c).length ≤ 2 := by unfold guardC; split <;> simp
   simp only [guard, List.flatMap_cons, List.length_append, List.length_cons] at ih ⊢
   lia
theorem c_guarded {D : Nat} (hD : 1 ≤ D) {t : List Nat} (ht : t.length ≤ 1000) {μ : Mem} : ∃ μ', evCall fnTab D 36 [.str t] μ = .ok (.str (guard t)) μ' ∧ Keep μ.length μ μ' := by
 obtain ⟨d, rfl, _⟩ := succ_of (n := 0) hD
 refine ⟨μ ++ [t.map fun c => V.str (guardC c)], ?_, Keep.alloc (Nat.le_refl _) _⟩
 rw [evCall_succ rfl]
 refine run_fn rfl ?_
 have hm := e_map (Φ := evCall fnTab d) (t := t) (l := []) (μ := μ) (f := fun c => .str (guardC c)) ht (elt := .ite (.cmp .isIn (.loc 0) (.bin .add (.bin .add (.gl 7) (.gl 8)) (.gl 9))) (.loc 0) (.bin .add (.str [92]) (.loc 0))) (fun c _ μ' => by
   have e0 : binV .add (.str smallL) (.str greatL) = some (.str (smallL ++ greatL)) := bin_ss (by decide)
   have e1 : binV .add (.str (smallL ++ greatL)) (.str namedL) = some (.str (smallL ++ greatL ++ namedL)) := bin_ss (by decide)
   have e2 : binV .add (.str [92]) (.str [c]) = some (.str [92, c]) := bin_ss (by simp)
   have q1 : cmpV μ' .isIn (.str [c]) (.str (smallL ++ greatL ++ namedL)) = some (word c) := by rw [cmp_in_cs, all_has]
   have g7' := @g7
   have g8' := @g8
   have g9' := @g9
   generalize smallL ++ greatL ++ namedL = S3 at *
   generalize smallL ++ greatL = S2 at *
   generalize smallL = S7 at *
   generalize greatL = S8 at *
   generalize namedL = S9 at *
   unfold guardC
   cases hw : word c <;> simp [g7', g8', g9', e0, e1, e2, q1, hw, -cmp_in_cs])
 have hj := me_join (μ := μ ++ [t.map fun c => V.str (guardC c)]) (r := μ.length) (t := t) (f := guardC) (by simp) (by have := guard_len t; unfold guard at this; lia)
 have hg : guard t = t.flatMap guardC := rfl
 rw [hg]
 simp [f_law_guarded, okMe, hm, hj]
noncomputable def dropS : Nat → Ss → Ss
 | 0, s => s
 | n + 1, .cons _ ss => dropS n ss
 | _ + 1, .nil => .nil
theorem seq_next {Φ : Nat → List V → Mem → O V} {s : S} {ss : Ss} {l l' : Loc} {μ μ' : Mem} {r : F} (h : xS Φ s l μ = .next l' μ') (g : xSs Φ ss l' μ' = r) : xSs Φ (.cons s ss) l μ = r := by
 rw [ss_cons, h, seqK_next, g]
theorem seq_ret {Φ : Nat → List V → Mem → O V} {s : S} {ss : Ss} {l : Loc} {μ μ' : Mem} {v : V} (h : xS Φ s l μ = .ret v μ') : xSs Φ (.cons s ss) l μ = .ret v μ' := by
 rw [ss_cons, h, seqK_ret]
theorem pickT {Φ : Nat → List V → Mem → O V} {k : Int} {a ss : Ss} {x : Option V} {w : Int} {l : Loc} {μ μ' : Mem} {v : V} (hw : w ≠ k) (g : xSs Φ ss (x :: some (.int w) :: l) μ = .ret v μ') : xSs Φ (.cons (.ite (.cmp .eq (.loc 1) (.int k)) a .nil) ss) (x :: some (.int w) :: l) μ = .ret v μ' := by
 refine seq_next ?_ g
 simp [hw]
theorem hit {Φ : Nat → List V → Mem → O V} {k : Int} {a ss : Ss} {x : Option V} {w : Int} {l : Loc} {μ μ' : Mem} {v : V} (hw : w = k) (g : xSs Φ a (x :: some (.int w) :: l) μ = .ret v μ') : xSs Φ (.cons (.ite (.cmp .eq (.loc 1) (.int k)) a .nil) ss) (x :: some (.int w) :: l) μ = .ret v μ' := by
 refine seq_ret ?_
 subst hw
 simp [g]
noncomputable abbrev oddL (w : Int) (t : List Nat) : Loc := [some (.ref 1), some (.int w), some (.str t), none, none, none, none, none, none]
noncomputable def OddEnd (d : Nat) (w : Int) : Prop := ∀ {n : Nat} {μ : Mem} {t : List Nat}, PotL n μ → n ≤ 900 → Title t → ∃ x ps v μ', xSs (evCall fnTab d) (dropS 2 f_law_odd.body) (oddL w t) μ = .ret (.tup [.str x, v]) μ' ∧ Odd x ps ∧ (v = .il (ps.map vl) ∨ (v = .none ∧ ps = [.expr [36, 48], .text (x.drop 2)])) ∧ PotL (n + 6) μ'
theorem odd0 {d : Nat} (hd : 3 ≤ d) : OddEnd d 0 := fun {n μ t} h hn ht => by
 have htl := ht.len
 obtain ⟨k, μ1, a, b, c⟩ := lot (D := d) (by lia) (by lia) h 7 (by decide) (i := 7) rfl
 obtain ⟨s, hs, hm⟩ : ∃ s, [38, 44, 59, 33, 64, 47, 34][k]? = some s ∧ s ∈ [38, 44, 59, 33, 64, 47, 34] := ⟨[38, 44, 59, 33, 64, 47, 34][k], by simp [b], List.getElem_mem _⟩
 have e2 : idxV μ1 (.str [38, 44, 59, 33, 64, 47, 34]) (.int (k : Nat)) = some (.str [s]) := by rw [ix_s, hs]; rfl
 refine ⟨[36, s] ++ t, [.expr [36, s], .text t], _, μ1, hit rfl ?_, .w0 ht hm, .inl rfl, c.mono (by lia)⟩
 simp (disch := (simp only [List.length_cons, List.length_append, List.length_nil]; lia)) [a, e2, bin_ss, vl]
theorem odd5 {d : Nat} (hd : 3 ≤ d) : OddEnd d 5 := fun {n μ t} h hn ht => by
 have htl := ht.len
 refine ⟨[36] ++ t ++ [58, 58], [.expr (36 :: t), .text [58, 58]], _, μ, pickT (by decide) (pickT (by decide) (pickT (by decide) (pickT (by decide) (pickT (by decide) (hit rfl ?_))))), .w5 ht, .inl rfl, h.mono (by lia)⟩
 simp (disch := (simp only [List.length_cons, List.length_append, List.length_nil]; lia)) [bin_ss, vl]
theorem digits_count {k : Nat} (h : k < 100) : Count (digitsOf k) := by
 have : ∀ k : Fin 100, ((digitsOf k.1).all digit && !(digitsOf k.1).isEmpty && decide ((digitsOf k.1).length ≤ 2)) = true := by decide +kernel
 have h1 := this ⟨k, h⟩
 simp only [Bool.and_eq_true, List.all_eq_true, Bool.not_eq_true', decide_eq_true_eq] at h1
 exact ⟨h1.1.1, fun z => by rw [z] at h1; simp at h1, h1.2⟩
theorem odd1 {d : Nat} (hd : 3 ≤ d) : OddEnd d 1 := fun {n μ t} h hn ht => by
 have htl := ht.len
 obtain ⟨k, μ1, a, b, c⟩ := lot (D := d) (by lia) (by lia) h 100 (by decide) (i := 100) rfl
 have hc := digits_count b
 have hcl := hc.len
 have e2 : biV μ1 .str [.int (k : Nat)] = some (.str (digitsOf k)) := by rw [bi_str (by lia) (by lia)]; rfl
 refine ⟨[36, 48] ++ (digitsOf k ++ t), [.expr [36, 48], .text (digitsOf k ++ t)], .none, μ1, pickT (by decide) (hit rfl ?_), .w1 ht hc.dg hc.ne hc.len, .inr ⟨rfl, rfl⟩, c.mono (by lia)⟩
 generalize digitsOf k = dd at *
 simp (disch := (simp only [List.length_cons, List.length_append, List.length_nil, List.length_map, List.length_take, List.length_drop]; lia)) [a, e2, bin_ss]
theorem odd2 {d : Nat} (hd : 3 ≤ d) : OddEnd d 2 := fun {n μ t} h hn ht => by
 have htl := ht.len
 obtain ⟨k, μ1, a, b, c⟩ := lot (D := d) (by lia) (by lia) h 13 (by decide) (i := 13) rfl
 have key : ∃ x, [V.str [36, 35, 32], .str [36, 58, 58], .str [36, 36, 32], .str [36, 35, 91, 48, 93], .str (36 :: 32 :: t), .str [36, 41], .str [36, 37], .str [64, 45], .str (64 :: 32 :: t), .str [64, 49], .str [64, 58, 58], .str [36, 94, 87], .str [36, 62]][k]? = some (.str x) ∧ Nothing t x := by
   have : k = 0 ∨ k = 1 ∨ k = 2 ∨ k = 3 ∨ k = 4 ∨ k = 5 ∨ k = 6 ∨ k = 7 ∨ k = 8 ∨ k = 9 ∨ k = 10 ∨ k = 11 ∨ k = 12 := by lia
   rcases this with rfl | rfl | rfl | rfl | rfl | rfl | rfl | rfl | rfl | rfl | rfl | rfl | rfl
   · exact ⟨_, rfl, .a⟩
   · exact ⟨_, rfl, .b⟩
   · exact ⟨_, rfl, .c⟩
   · exact ⟨_, rfl, .d⟩
   · exact ⟨_, rfl, .e⟩
   · exact ⟨_, rfl, .f⟩
   · exact ⟨_, rfl, .g⟩
   · exact ⟨_, rfl, .h⟩
   · exact ⟨_, rfl, .i⟩
   · exact ⟨_, rfl, .j⟩
   · exact ⟨_, rfl, .k⟩
   · exact ⟨_, rfl, .l⟩
   · exact ⟨_, rfl, .m⟩
 obtain ⟨x, hx, hN⟩ := key
 have e2 := ix_l (μ := μ1) (n := k) (vs := [V.str [36, 35, 32], .str [36, 58, 58], .str [36, 36, 32], .str [36, 35, 91, 48, 93], .str (36 :: 32 :: t), .str [36, 41], .str [36, 37], .str [64, 45], .str (64 :: 32 :: t), .str [64, 49], .str [64, 58, 58], .str [36, 94, 87], .str [36, 62]])
 rw [hx] at e2
 refine ⟨x, [.text x], _, μ1, pickT (by decide) (pickT (by decide) (hit rfl ?_)), .w2 ht hN, .inl rfl, c.mono (by lia)⟩
 simp (disch := (simp only [List.length_cons, List.length_append, List.length_nil, List.length_map, List.length_take, List.length_drop]; lia)) [a, e2, bin_ss, vl]
theorem odd3 {d : Nat} (hd : 3 ≤ d) : OddEnd d 3 := fun {n μ t} h hn ht => by
 have htl := ht.len
 obtain ⟨k, μ1, a, b, c⟩ := lot (D := d) (by lia) (by lia) h 5 (by decide) (i := 5) rfl
 have key : ∃ x, [V.str [91, 93], .str [123, 125], .str [91, 32, 93], .str [123, 32, 9, 125], .str [91, 10, 93]][k]? = some (.str x) ∧ Empty x := by
   have : k = 0 ∨ k = 1 ∨ k = 2 ∨ k = 3 ∨ k = 4 := by lia
   rcases this with rfl | rfl | rfl | rfl | rfl
   · exact ⟨_, rfl, .a⟩
   · exact ⟨_, rfl, .b⟩
   · exact ⟨_, rfl, .c⟩
   · exact ⟨_, rfl, .d⟩
   · exact ⟨_, rfl, .e⟩
 obtain ⟨e, hx, hN⟩ := key
 have hel := hN.len
 have e2 := ix_l (μ := μ1) (n := k) (vs := [V.str [91, 93], .str [123, 125], .str [91, 32, 93], .str [123, 32, 9, 125], .str [91, 10, 93]])
 rw [hx] at e2
 refine ⟨[36] ++ t ++ e, [.expr (36 :: t), .text e], _, μ1, pickT (by decide) (pickT (by decide) (pickT (by decide) (hit rfl ?_))), .w3 ht hN, .inl rfl, c.mono (by lia)⟩
 simp (disch := (simp only [List.length_cons, List.length_append, List.length_nil, List.length_map, List.length_take, List.length_drop]; lia)) [a, e2, bin_ss, vl]
theorem odd4 {d : Nat} (hd : 3 ≤ d) : OddEnd d 4 := fun {n μ t} h hn ht => by
 have htl := ht.len
 obtain ⟨k, μ1, a, b, c⟩ := lot (D := d) (by lia) (by lia) h 5 (by decide) (i := 5) rfl
 have key : ∃ x, [V.str [123, 39, 97, 92, 39, 125, 98, 39, 125], .str [91, 34, 93, 34, 93], .str [123, 92, 125, 125], .str [91, 36, 121, 123, 39, 93, 39, 125, 93], .str [123, 97, 125, 123, 98, 125, 45, 62, 91, 49, 93, 91, 50, 93, 45, 62, 123, 99, 125]][k]? = some (.str x) ∧ Inner x := by
   have : k = 0 ∨ k = 1 ∨ k = 2 ∨ k = 3 ∨ k = 4 := by lia
   rcases this with rfl | rfl | rfl | rfl | rfl
   · exact ⟨_, rfl, .a⟩
   · exact ⟨_, rfl, .b⟩
   · exact ⟨_, rfl, .c⟩
   · exact ⟨_, rfl, .d⟩
   · exact ⟨_, rfl, .e⟩
 obtain ⟨e, hx, hN⟩ := key
 have hel := hN.facts.1
 have e2 := ix_l (μ := μ1) (n := k) (vs := [V.str [123, 39, 97, 92, 39, 125, 98, 39, 125], .str [91, 34, 93, 34, 93], .str [123, 92, 125, 125], .str [91, 36, 121, 123, 39, 93, 39, 125, 93], .str [123, 97, 125, 123, 98, 125, 45, 62, 91, 49, 93, 91, 50, 93, 45, 62, 123, 99, 125]])
 rw [hx] at e2
 refine ⟨[36] ++ t ++ e, [.expr ([36] ++ t ++ e)], _, μ1, pickT (by decide) (pickT (by decide) (pickT (by decide) (pickT (by decide) (hit rfl ?_)))), .w4 ht hN, .inl rfl, c.mono (by lia)⟩
 simp (disch := (simp only [List.length_cons, List.length_append, List.length_nil, List.length_map, List.length_take, List.length_drop]; lia)) [a, e2, bin_ss, vl]
theorem odd6 {d : Nat} (hd : 3 ≤ d) : OddEnd d 6 := fun {n μ t} h hn ht => by
 have htl := ht.len
 refine ⟨[64] ++ t ++ [45, 62, 91, 48, 93], [.expr (64 :: t), .text [45, 62, 91, 48, 93]], _, μ, pickT (by decide) (pickT (by decide) (pickT (by decide) (pickT (by decide) (pickT (by decide) (pickT (by decide) (hit rfl ?_)))))), .w6 ht, .inl rfl, h.mono (by lia)⟩
 simp (disch := (simp only [List.length_cons, List.length_append, List.length_nil, List.length_map, List.length_take, List.length_drop]; lia)) [bin_ss, vl]
theorem odd7 {d : Nat} (hd : 3 ≤ d) : OddEnd d 7 := fun {n μ t} h hn ht => by
 have htl := ht.len
 refine ⟨[64, 58, 58] ++ t ++ [91, 49, 93, 123, 50, 125], [.expr ([64, 58, 58] ++ t ++ [91, 49, 93]), .text [123, 50, 125]], _, μ, pickT (by decide) (pickT (by decide) (pickT (by decide) (pickT (by decide) (pickT (by decide) (pickT (by decide) (pickT (by decide) (hit rfl ?_))))))), .w7 ht, .inl rfl, h.mono (by lia)⟩
 simp (disch := (simp only [List.length_cons, List.length_append, List.length_nil, List.length_map, List.length_take, List.length_drop]; lia)) [bin_ss, vl]
theorem odd8 {d : Nat} (hd : 3 ≤ d) : OddEnd d 8 := fun {n μ t} h hn ht => by
 have htl := ht.len
 refine ⟨[36] ++ t ++ [58, 58] ++ t ++ [45, 62, 120], [.expr ([36] ++ t ++ [58, 58] ++ t), .text [45, 62, 120]], _, μ, pickT (by decide) (pickT (by decide) (pickT (by decide) (pickT (by decide) (pickT (by decide) (pickT (by decide) (pickT (by decide) (pickT (by decide) (hit rfl ?_)))))))), .w8 ht, .inl rfl, h.mono (by lia)⟩
 simp (disch := (simp only [List.length_cons, List.length_append, List.length_nil, List.length_map, List.length_take, List.length_drop]; lia)) [bin_ss, vl]
noncomputable def codesV : List V := [.tup [.str [92, 120, 123, 49, 48, 102, 102, 102, 102, 125], .str [1114111]], .tup [.str [92, 120, 123, 52, 103, 125], .str [4]], .tup [.str [92, 111, 123, 56, 125], .str [0]], .tup [.str [92, 120, 123, 48, 48, 48, 48, 48, 48, 52, 49, 125], .str [65]], .tup [.str [92, 78, 120], .str [78, 120]], .tup [.str [92, 99, 63], .str [127]], .tup [.str [92, 99, 122], .str [26]], .tup [.str [92, 111, 123, 49, 48, 49, 125], .str [65]], .tup [.str [92, 120, 52, 71], .str [4, 71]], .tup [.str [92, 49, 48, 49, 56], .str [65, 56]]]
theorem c_codes {D : Nat} (hD : 1 ≤ D) (μ : Mem) : evCall fnTab D 30 [] μ = .ok (.il codesV) μ := by
 obtain ⟨d, rfl, _⟩ := succ_of (n := 0) hD
 rw [evCall_succ rfl]
 refine run_fn rfl ?_
 simp [f_law_codes, codesV]
theorem odd9 {d : Nat} (hd : 3 ≤ d) : OddEnd d 9 := fun {n μ t} h hn ht => by
 obtain ⟨k, μ1, a, b, c⟩ := lot (D := d) (by lia) (by lia) h 10 (by decide) (i := 10) rfl
 have hcd := c_codes (D := d) (by lia) μ
 have key : ∃ x u, codesV[k]? = some (.tup [.str x, .str u]) ∧ Code x u := by
   have : k = 0 ∨ k = 1 ∨ k = 2 ∨ k = 3 ∨ k = 4 ∨ k = 5 ∨ k = 6 ∨ k = 7 ∨ k = 8 ∨ k = 9 := by lia
   rcases this with rfl | rfl | rfl | rfl | rfl | rfl | rfl | rfl | rfl | rfl
   · exact ⟨_, _, rfl, .a⟩
   · exact ⟨_, _, rfl, .b⟩
   · exact ⟨_, _, rfl, .c⟩
   · exact ⟨_, _, rfl, .d⟩
   · exact ⟨_, _, rfl, .e⟩
   · exact ⟨_, _, rfl, .f⟩
   · exact ⟨_, _, rfl, .g⟩
   · exact ⟨_, _, rfl, .k⟩
   · exact ⟨_, _, rfl, .i⟩
   · exact ⟨_, _, rfl, .j⟩
 obtain ⟨x, u, hx, hN⟩ := key
 have e2 := ix_l (μ := μ1) (n := k) (vs := codesV)
 rw [hx] at e2
 generalize codesV = C at *
 refine ⟨x, [.text u], _, μ1, pickT (by decide) (pickT (by decide) (pickT (by decide) (pickT (by decide) (pickT (by decide) (pickT (by decide) (pickT (by decide) (pickT (by decide) (pickT (by decide) (hit rfl ?_))))))))), .w9 hN, .inl rfl, c.mono (by lia)⟩
 simp (disch := (simp only [List.length_cons, List.length_append, List.length_nil, List.length_map, List.length_take, List.length_drop]; lia)) [a, e2, hcd, vl]
noncomputable abbrev oddL2 (w : Int) (t u : List Nat) : Loc := [some (.ref 1), some (.int w), some (.str t), some (.str u), none, none, none, none, none]
noncomputable def OddEnd2 (d : Nat) (w : Int) : Prop := ∀ {n : Nat} {μ : Mem} {t u : List Nat}, PotL n μ → Title t → RunW u → ∃ x ps μ', xSs (evCall fnTab d) (dropS 13 f_law_odd.body) (oddL2 w t u) μ = .ret (.tup [.str x, .il (ps.map vl)]) μ' ∧ Odd x ps ∧ PotL n μ'
theorem odd10 {d : Nat} (hd : 3 ≤ d) : OddEnd2 d 10 := fun {n μ t u} h ht hu => by
 have hul := hu.len
 obtain ⟨μ1, a, k⟩ := c_guarded (D := d) (by lia) (t := u) (by lia) (μ := μ)
 refine ⟨[92, 81] ++ u ++ [92, 69], [.text (guard u)], μ1, hit rfl ?_, .w10 hu, h.keep k⟩
 simp (disch := (simp only [List.length_cons, List.length_append, List.length_nil]; lia)) [a, bin_ss, vl]
theorem odd11 {d : Nat} (hd : 3 ≤ d) : OddEnd2 d 11 := fun {n μ t u} h ht hu => by
 have hul := hu.len
 have htl := ht.len
 obtain ⟨μ1, a, k⟩ := c_upper (D := d) (by lia) (t := u ++ t) (by simp; lia) (μ := μ)
 obtain ⟨μ2, a2, k2⟩ := c_lower (D := d) (by lia) (t := u ++ t) (by simp; lia) (μ := μ1)
 have hk := (h.keep k).keep k2
 refine ⟨[92, 85] ++ u ++ t ++ [92, 76] ++ u ++ t ++ [92, 69] ++ t, [.text ((u ++ t).map gr ++ (u ++ t).map sm ++ t)], μ2, pickT (by decide) (hit rfl ?_), .w11 hu ht, hk⟩
 simp (disch := (first | lia | (simp only [List.length_cons, List.length_append, List.length_nil, List.length_map, List.length_take, List.length_drop]; lia))) [a, a2, bin_ss, vl]
theorem odd12 {d : Nat} (hd : 3 ≤ d) : OddEnd2 d 12 := fun {n μ t u} h ht hu => by
 have hul := hu.len
 have htl := ht.len
 obtain ⟨μ2, a2, k2⟩ := c_lower (D := d) (by lia) (t := u ++ t) (by simp; lia) (μ := μ)
 refine ⟨[92, 76] ++ u ++ t ++ [92, 117, 92, 69] ++ t, [.text ((u ++ t).map sm ++ t)], μ2, pickT (by decide) (pickT (by decide) (hit rfl ?_)), .w12 hu ht, h.keep k2⟩
 simp (disch := (first | lia | (simp only [List.length_cons, List.length_append, List.length_nil, List.length_map, List.length_take, List.length_drop]; lia))) [a2, bin_ss, vl]
theorem odd13 {d : Nat} (hd : 3 ≤ d) : OddEnd2 d 13 := fun {n μ t u} h ht hu => by
 have hul := hu.len
 have htl := ht.len
 have ho := Odd.w13 hu ht
 obtain ⟨x, t', rfl, hx⟩ := ht.cons
 simp only [List.length_cons] at htl
 obtain ⟨μ1, a, k⟩ := c_upper (D := d) (by lia) (t := u) (by lia) (μ := μ)
 obtain ⟨μ2, a2, k2⟩ := c_upper (D := d) (by lia) (t := [x]) (by simp) (μ := μ1)
 obtain ⟨μ3, a3, k3⟩ := c_lower (D := d) (by lia) (t := t') (by lia) (μ := μ2)
 have hk := ((h.keep k).keep k2).keep k3
 have i0 : ∀ μ, idxV μ (.str (x :: t')) (.int 0) = some (.str [x]) := fun μ => by
   have := ix_s (μ := μ) (s := x :: t') (i := 0)
   simpa using this
 have s1 : sliceV (.str (x :: t')) (.int 1) .none = some (.str t') := sl_10
 refine ⟨_, _, μ3, pickT (by decide) (pickT (by decide) (pickT (by decide) (hit rfl ?_))), ho, hk⟩
 simp only [List.map_cons, List.map_nil] at a2
 simp (disch := (first | lia | (simp only [List.length_cons, List.length_append, List.length_nil, List.length_map, List.length_take, List.length_drop]; lia))) [a, a2, a3, i0, s1, bin_ss, vl]
theorem odd14 {d : Nat} (hd : 3 ≤ d) : OddEnd2 d 14 := fun {n μ t u} h ht hu => by
 have htl := ht.len
 have ho := Odd.w14 ht
 obtain ⟨μ1, a, k⟩ := c_lower (D := d) (by lia) (t := t) (by lia) (μ := μ)
 obtain ⟨x, t', rfl, hx⟩ := ht.cons
 simp only [List.length_cons] at htl
 obtain ⟨μ2, a2, k2⟩ := c_lower (D := d) (by lia) (t := [x]) (by simp) (μ := μ1)
 obtain ⟨μ3, a3, k3⟩ := c_upper (D := d) (by lia) (t := t') (by lia) (μ := μ2)
 have hk := ((h.keep k).keep k2).keep k3
 have i0 : ∀ μ, idxV μ (.str (x :: t')) (.int 0) = some (.str [x]) := fun μ => by
   have := ix_s (μ := μ) (s := x :: t') (i := 0)
   simpa using this
 have s1 : sliceV (.str (x :: t')) (.int 1) .none = some (.str t') := sl_10
 refine ⟨_, _, μ3, pickT (by decide) (pickT (by decide) (pickT (by decide) (pickT (by decide) (hit rfl ?_)))), ho, hk⟩
 simp only [List.map_cons, List.map_nil] at a a2
 simp (disch := (first | lia | (simp only [List.length_cons, List.length_append, List.length_nil, List.length_map, List.length_take, List.length_drop]; lia))) [a, a2, a3, i0, s1, bin_ss, vl]
theorem odd15 {d : Nat} (hd : 3 ≤ d) : OddEnd2 d 15 := fun {n μ t u} h ht hu => by
 have htl := ht.len
 obtain ⟨μ1, a, k⟩ := c_upper (D := d) (by lia) (t := t) (by lia) (μ := μ)
 refine ⟨[92, 81, 36] ++ t ++ [45, 92, 85] ++ t ++ [92, 69, 92, 69], [.case [81] [.text (45 :: t.map gr), .expr (36 :: t)]], μ1, pickT (by decide) (pickT (by decide) (pickT (by decide) (pickT (by decide) (pickT (by decide) (hit rfl ?_))))), .w15 ht, h.keep k⟩
 simp (disch := (first | lia | (simp only [List.length_cons, List.length_append, List.length_nil, List.length_map, List.length_take, List.length_drop]; lia))) [a, bin_ss, vl, vls]
theorem odd16 {d : Nat} (hd : 3 ≤ d) : OddEnd2 d 16 := fun {n μ t u} h ht hu => by
 have htl := ht.len
 refine ⟨[92, 69, 92, 85, 92, 69, 92, 117, 92, 108, 36] ++ t ++ [92, 69], [.case [117] [.case [108] [.expr (36 :: t)]]], μ, pickT (by decide) (pickT (by decide) (pickT (by decide) (pickT (by decide) (pickT (by decide) (pickT (by decide) (seq_ret ?_)))))), .w16 ht, h⟩
 simp (disch := (first | lia | (simp only [List.length_cons, List.length_append, List.length_nil, List.length_map, List.length_take, List.length_drop]; lia))) [bin_ss, vl, vls]
theorem odd_all {d k : Nat} (hd : 4 ≤ d) (hk : k < 17) {n : Nat} {μ : Mem} {t : List Nat} (h : PotL n μ) (hn : n ≤ 800) (ht : Title t) : ∃ x ps v μ', xSs (evCall fnTab d) (dropS 2 f_law_odd.body) (oddL ((k : Nat) : Int) t) μ = .ret (.tup [.str x, v]) μ' ∧ Odd x ps ∧ (v = .il (ps.map vl) ∨ (v = .none ∧ ps = [.expr [36, 48], .text (x.drop 2)])) ∧ PotL (n + 6) μ' := by
 by_cases h10 : k < 10
 · have : k = 0 ∨ k = 1 ∨ k = 2 ∨ k = 3 ∨ k = 4 ∨ k = 5 ∨ k = 6 ∨ k = 7 ∨ k = 8 ∨ k = 9 := by lia
   rcases this with rfl | rfl | rfl | rfl | rfl | rfl | rfl | rfl | rfl | rfl
   · exact odd0 (d := d) (by lia) h (by lia) ht
   · exact odd1 (d := d) (by lia) h (by lia) ht
   · exact odd2 (d := d) (by lia) h (by lia) ht
   · exact odd3 (d := d) (by lia) h (by lia) ht
   · exact odd4 (d := d) (by lia) h (by lia) ht
   · exact odd5 (d := d) (by lia) h (by lia) ht
   · exact odd6 (d := d) (by lia) h (by lia) ht
   · exact odd7 (d := d) (by lia) h (by lia) ht
   · exact odd8 (d := d) (by lia) h (by lia) ht
   · exact odd9 (d := d) (by lia) h (by lia) ht
 · obtain ⟨u, μ1, a, hu, h1⟩ := c_run (D := d) (by lia) (by lia) h
   have fin : ∃ x ps μ', xSs (evCall fnTab d) (dropS 13 f_law_odd.body) (oddL2 ((k : Nat) : Int) t u) μ1 = .ret (.tup [.str x, .il (ps.map vl)]) μ' ∧ Odd x ps ∧ PotL (n + 5) μ' := by
     have : k = 10 ∨ k = 11 ∨ k = 12 ∨ k = 13 ∨ k = 14 ∨ k = 15 ∨ k = 16 := by lia
     rcases this with rfl | rfl | rfl | rfl | rfl | rfl | rfl
     · exact odd10 (d := d) (by lia) h1 ht hu
     · exact odd11 (d := d) (by lia) h1 ht hu
     · exact odd12 (d := d) (by lia) h1 ht hu
     · exact odd13 (d := d) (by lia) h1 ht hu
     · exact odd14 (d := d) (by lia) h1 ht hu
     · exact odd15 (d := d) (by lia) h1 ht hu
     · exact odd16 (d := d) (by lia) h1 ht hu
   obtain ⟨x, ps, μ', b, ho, hp⟩ := fin
   refine ⟨x, ps, _, μ', ?_, ho, .inl rfl, hp.mono (by lia)⟩
   refine pickT (by lia) (pickT (by lia) (pickT (by lia) (pickT (by lia) (pickT (by lia) (pickT (by lia) (pickT (by lia) (pickT (by lia) (pickT (by lia) (pickT (by lia) (seq_next (l' := oddL2 ((k : Nat) : Int) t u) (μ' := μ1) ?_ b))))))))))
   simp [a]
theorem c_odd {D n : Nat} (hD : 5 ≤ D) (hn : n ≤ 700) {μ : Mem} (h : PotL n μ) : ∃ x ps v μ', evCall fnTab D 38 [.ref 1] μ = .ok (.tup [.str x, v]) μ' ∧ Odd x ps ∧ (v = .il (ps.map vl) ∨ (v = .none ∧ ps = [.expr [36, 48], .text (x.drop 2)])) ∧ PotL (n + 12) μ' := by
 obtain ⟨d, rfl, hd⟩ := succ_of (n := 4) hD
 obtain ⟨k, μ1, a, b, c⟩ := lot (D := d) (by lia) (by lia) h 17 (by decide) (i := 17) rfl
 obtain ⟨t, μ2, a2, ht, c2⟩ := c_title (D := d) (by lia) (by lia) c
 obtain ⟨x, ps, v, μ3, e, ho, hv, hp⟩ := odd_all (d := d) (k := k) hd b c2 (by lia) ht
 refine ⟨x, ps, v, μ3, ?_, ho, hv, hp.mono (by lia)⟩
 rw [evCall_succ rfl]
 refine run_fn rfl ?_
 have s1 : xS (evCall fnTab d) (.assign 1 (.call 32 (.cons (.loc 0) (.cons (.int 17) .nil)))) [some (.ref 1), none, none, none, none, none, none, none, none] μ = .next [some (.ref 1), some (.int (k : Nat)), none, none, none, none, none, none, none] μ1 := by simp [a]
 have s2 : xS (evCall fnTab d) (.assign 2 (.call 33 (.cons (.loc 0) .nil))) [some (.ref 1), some (.int (k : Nat)), none, none, none, none, none, none, none] μ1 = .next (oddL ((k : Nat) : Int) t) μ2 := by simp [a2]
 have := seq_next s1 (seq_next s2 e)
 have e2 : xSs (evCall fnTab d) f_law_odd.body [some (.ref 1), none, none, none, none, none, none, none, none] μ = .ret (.tup [.str x, v]) μ3 := this
 show finK (xSs (evCall fnTab d) f_law_odd.body [some (.ref 1), none, none, none, none, none, none, none, none] μ) = _
 rw [e2, finK_ret]
theorem needs_app (a b : List Part) : needs (a ++ b) = max (needs a) (needs b) := by
 induction a with
 | nil =>
   have e : needs [] = 4 := by simp only [needs]
   rw [e]
   exact (Nat.max_eq_right (needs_pos b)).symm
 | cons p a ih => simp only [List.cons_append, needs, ih, Nat.max_assoc]
theorem join_needs (q : List Part) (p : Part) : needs (joinStep q p) ≤ max (needs q) (max 5 (need p)) := by
 unfold joinStep
 split
 · simp only [needs, need]; lia
 · simp only [needs]; lia
theorem join_len (q : List Part) (p : Part) : (joinStep q p).length ≤ q.length + 1 := by
 unfold joinStep
 split <;> simp
theorem joins_needs {M : Nat} (h5 : 5 ≤ M) : ∀ (ps q : List Part), needs q ≤ M → needs ps ≤ M → needs (joins q ps) ≤ M ∧ (joins q ps).length ≤ q.length + ps.length
 | [], q, h, _ => ⟨h, Nat.le_refl _⟩
 | p :: ps, q, h, g => by
   have g' : need p ≤ M ∧ needs ps ≤ M := by rw [needs] at g; exact Nat.max_le.mp g
   have hq : needs (joinStep q p) ≤ M := Nat.le_trans (join_needs q p) (Nat.max_le.mpr ⟨h, Nat.max_le.mpr ⟨h5, g'.1⟩⟩)
   have ih := joins_needs h5 ps (joinStep q p) hq g'.2
   refine ⟨ih.1, Nat.le_trans ih.2 ?_⟩
   have := join_len q p
   rw [List.length_cons]
   lia
theorem Odd.parts {x : List Nat} {ps : List Part} (h : Odd x ps) : ps.length ≤ 2 ∧ needs ps ≤ 21 := by
 cases h <;> exact ⟨Nat.le_of_ble_eq_true rfl, Nat.le_of_ble_eq_true rfl⟩
theorem Tail.parts {x : List Nat} {ps : List Part} (h : Tail x ps) : ps.length ≤ 2 ∧ needs ps ≤ 21 ∧ sz ps ≤ 20 := by
 cases h <;> exact ⟨Nat.le_of_ble_eq_true rfl, Nat.le_of_ble_eq_true rfl, Nat.le_of_ble_eq_true rfl⟩
structure Acc (m : Nat) (t : List Nat) (ps : List Part) : Prop where
 walk : ∀ r, B (62 * m) t ps r
 sm : Sm t
 len : t.length ≤ 61 * m
 cnt : ps.length ≤ 3 * m
 dp : needs ps ≤ 21
theorem Acc.nil : Acc 0 [] [] := ⟨fun r => ⟨by simp [sz], fun q _ => .refl⟩, by simp [Sm], by simp, by simp, by simp [needs]⟩
theorem Acc.step {m : Nat} {t x : List Nat} {ps qs : List Part} (h : Acc m t ps) (g : Odd x qs) : Acc (m + 1) (t ++ (x ++ [46])) (ps ++ (qs ++ [.text [46]])) := by
 have l1 := h.len
 have l2 := g.len
 have c1 := h.cnt
 have c2 := g.parts
 have d1 := h.dp
 refine ⟨fun r => (W.app (h.walk _) (g.walk r)).mono (by lia), Sm.app h.sm (Sm.app g.sm (sm_dec rfl)), by simp; lia, by simp; lia, ?_⟩
 rw [needs_app, needs_app]
 simp only [needs, need]
 lia
noncomputable abbrev lawL (script t due : V) (turn : Option V) (raw parts : Option V) : Loc := [some script, some (.ref 1), some t, some due, turn, none, none, none, none, raw, parts]
theorem isn_none (μ : Mem) : cmpV μ .isNone .none .none = some true := (rfl)
theorem isn_il (μ : Mem) (vs : List V) : cmpV μ .isNone (.il vs) .none = some false := (rfl)
theorem bin_ll {a b : List V} (h : a.length + b.length ≤ 1000) : binV .add (.il a) (.il b) = some (.il (a ++ b)) := bin_add_ll (by have : LIM = 1048576 := rfl; lia)
theorem law_body {d n m : Nat} (hd : 5 ≤ d) (hn : n ≤ 700) (hm : m ≤ 10) {μ : Mem} (h : PotL n μ) {script : V} {t : List Nat} {ps : List Part} (ha : Acc m t ps) {turn raw parts : Option V} :
   ∃ t' ps' μ' raw' parts', xSs (evCall fnTab d) f_law_b2 (lawL script (.str t) (.il (ps.map vl)) turn raw parts) μ = .next (lawL script (.str t') (.il (ps'.map vl)) turn raw' parts') μ' ∧ Acc (m + 1) t' ps' ∧ PotL (n + 12) μ' := by
 obtain ⟨x, qs, v, μ', a, ho, hv, hp⟩ := c_odd (D := d) hd hn h
 have hacc := ha.step ho
 have l1 := ha.len
 have l2 := ho.len
 have c1 := ha.cnt
 have c2 := ho.parts.1
 have hcl : (ps.map vl).length ≤ 30 := by simp; lia
 have hql : (qs.map vl).length ≤ 2 := by simpa using c2
 have e1 : binV .add (.str x) (.str [46]) = some (.str (x ++ [46])) := bin_ss (by simp; lia)
 have e2 : augV .add (.str t) (.str (x ++ [46])) = some (.str (t ++ (x ++ [46]))) := aug_ss (by simp; lia)
 have e3 : binV .add (.il (ps.map vl)) (.il (qs.map vl)) = some (.il (ps.map vl ++ qs.map vl)) := bin_ll (by lia)
 have e4 : ∀ w, binV .add (.il (ps.map vl ++ qs.map vl)) (.il [w]) = some (.il (ps.map vl ++ qs.map vl ++ [w])) := fun w => bin_ll (by simp only [List.length_append, List.length_singleton]; lia)
 have e5 : (ps ++ (qs ++ [Part.text [46]])).map vl = ps.map vl ++ qs.map vl ++ [.tup [.str tx, .str [46]]] := by simp [vl]
 rcases hv with rfl | ⟨rfl, hq⟩
 · refine ⟨_, _, μ', some (.str x), some (.il (qs.map vl)), ?_, hacc, hp⟩
   rw [e5]
   generalize ps.map vl = P at *
   generalize qs.map vl = Q at *
   generalize x ++ [46] = x' at *
   generalize t ++ x' = t' at *
   generalize P ++ Q = PQ at *
   simp [f_law_b2, a, e1, e2, e3, e4, isn_il]
 · refine ⟨_, _, μ', some (.str x), some (.il (qs.map vl)), ?_, hacc, hp⟩
   rw [e5]
   have s2 : sliceV (.str x) (.int 2) .none = some (.str (x.drop 2)) := sl_n0 (i := 2) (by decide)
   have hqv : qs.map vl = [.tup [.str [101, 120, 112, 114], .str [36, 48]], .tup [.str [116, 101, 120, 116], .str (x.drop 2)]] := by rw [hq]; simp [vl]
   rw [hqv] at e3 e4 ⊢
   generalize ps.map vl = P at *
   generalize x.drop 2 = xd at *
   generalize x ++ [46] = x' at *
   generalize t ++ x' = t' at *
   simp [f_law_b2, a, e1, e2, e3, e4, isn_none, s2]
theorem law_loop {d : Nat} (hd : 5 ≤ d) {script : V} : ∀ (xs : List V) (n m : Nat) (μ : Mem) (t : List Nat) (ps : List Part) (turn raw parts : Option V), n + 12 * xs.length ≤ 700 → m + xs.length ≤ 10 → PotL n μ → Acc m t ps →
   ∃ t' ps' μ' turn' raw' parts', forS (evCall fnTab d) f_law_b2 4 (fun _ => True) xs (lawL script (.str t) (.il (ps.map vl)) turn raw parts) μ = .next (lawL script (.str t') (.il (ps'.map vl)) turn' raw' parts') μ' ∧ Acc (m + xs.length) t' ps' ∧ PotL (n + 12 * xs.length) μ'
 | [], n, m, μ, t, ps, turn, raw, parts, _, _, h, ha => ⟨t, ps, μ, turn, raw, parts, by simp, ha, h⟩
 | v :: xs, n, m, μ, t, ps, turn, raw, parts, hn, hm, h, ha => by
   simp only [List.length_cons] at hn hm
   obtain ⟨t1, ps1, μ1, raw1, parts1, a1, a2, a3⟩ := law_body (script := script) (turn := some v) (raw := raw) (parts := parts) hd (by lia) (by lia) h ha
   obtain ⟨t2, ps2, μ2, turn2, raw2, parts2, b1, b2, b3⟩ := law_loop hd (script := script) xs (n + 12) (m + 1) μ1 t1 ps1 (some v) raw1 parts1 (by lia) (by lia) a3 a2
   refine ⟨t2, ps2, μ2, turn2, raw2, parts2, ?_, ?_, ?_⟩
   · rw [forS_cons]
     have e : (lawL script (.str t) (.il (ps.map vl)) turn raw parts).set 4 (some v) = lawL script (.str t) (.il (ps.map vl)) (some v) raw parts := rfl
     rw [e, a1, bodyK_next, only_T, b1]
   · have : m + (v :: xs).length = m + 1 + xs.length := by simp; lia
     rw [this]; exact b2
   · have : n + 12 * (v :: xs).length = n + 12 + 12 * xs.length := by simp; lia
     rw [this]; exact b3
theorem PV.alloc {L : List Nat} {μ : Mem} {ws : List V} {vs : List V} {q : List Part} (h : PVs L μ vs q) : PVs L (μ ++ [ws]) vs q := h.step (fun r vs hr hv => ⟨hr, getElem?_alloc hv⟩)
theorem same_parts {d : Nat} (hd : 95 ≤ d) {pat : Bool} {t : List Nat} {ps : List Part} {μ : Mem} (hs : Okt t) (hp : PartsOf pat t (joins [] ps)) (hz : sz ps ≤ 100000) (hn : needs ps ≤ 21) (hl : ps.length ≤ 30) :
   ∃ p μ1 f μ2, evCall fnTab d 28 [.str t, .bool pat] μ = .ok (.ref p) μ1 ∧ evCall fnTab d 39 [.il (ps.map vl)] μ1 = .ok (.ref f) μ2 ∧ eqL μ2 (.ref p) (.ref f) = some true ∧ Keep μ.length μ μ2 := by
 obtain ⟨p, μ1, vs, a1, a2, ⟨L, a3⟩, a4, a5⟩ := c_parts (D := d) hd (μ := μ) hs hp
 have j := c_joined (D := d) (by lia) (μ := μ1) hz
 have hb := joins_needs (M := 21) (by decide) ps [] (by simp [needs]) hn
 have hb2 : (joins [] ps).length ≤ ps.length := by simpa using hb.2
 refine ⟨p, μ1, μ1.length, _, a1, j, ?_, a4.trans (Keep.alloc a4.2 _)⟩
 refine eq_parts (getElem?_alloc a2) (PV.alloc a3) (by simp) ?_
 have := hb.1
 lia
theorem cmp_ne_same {μ : Mem} {p f : Nat} (h : eqL μ (.ref p) (.ref f) = some true) : cmpV μ .ne (.ref p) (.ref f) = some false := by
 show (eqL μ (.ref p) (.ref f)).map (!·) = _
 rw [h]; rfl
theorem cmp_eq_same {μ : Mem} {p f : Nat} (h : eqL μ (.ref p) (.ref f) = some true) : cmpV μ .eq (.ref p) (.ref f) = some true := by
 show eqL μ (.ref p) (.ref f) = _
 exact h
theorem try_exc {Φ : Nat → List V → Mem → O V} {b : Ss} {i : Nat} {e : E} {l l1 : Loc} {μ μ1 μ2 : Mem} {v : V} (h : xSs Φ b l μ = .exc l1 μ1) (g : xE Φ e l1 μ1 = .ok v μ2) : xS Φ (.tryS b i e) l μ = .next (l1.set i (some v)) μ2 := by
 rw [s_try, h]
 show (match xE Φ e l1 μ1 with | .ok v μ₂ => F.next (l1.set i (some v)) μ₂ | _ => .bad) = _
 rw [g]
theorem Acc.parts {m : Nat} {t : List Nat} {ps : List Part} (h : Acc m t ps) (hm : m ≤ 10) : PartsOf false t (joins [] ps) := by
 have h1 := (h.walk []).go [] (by simp [sz]; lia)
 rw [List.append_nil] at h1
 exact ⟨50, _, h1, rfl⟩
theorem Acc.tail {m : Nat} {t x : List Nat} {ps qs : List Part} (h : Acc m t ps) (hm : m ≤ 10) (g : Tail x qs) : PartsOf false (t ++ x) (joins [] (ps ++ qs)) := by
 have h1 := (h.walk x).go [] (by simp [sz]; lia)
 have hsz := joins_sz ps []
 have hle := (h.walk []).le
 obtain ⟨T, g1, g2⟩ := g.ends (joins [] ps) (by simp only [sz_nil] at hsz; lia)
 refine ⟨50, T, h1.trans g1, ?_⟩
 rw [g2]
 simp [joins, List.foldl_append]
theorem Acc.refuse {m : Nat} {t x : List Nat} {ps : List Part} (h : Acc m t ps) (hm : m ≤ 10) (g : Refused x) : Refuse (t ++ x) := by
 obtain ⟨r, rfl, hr⟩ := g.esc
 exact ⟨50, _, r, (h.walk (92 :: r)).go [] (by simp [sz]; lia), hr⟩
theorem Refused.refuse {x : List Nat} (g : Refused x) : Refuse x := by
 obtain ⟨r, rfl, hr⟩ := g.esc
 exact ⟨50, _, r, .refl, hr⟩
noncomputable def tailsV : List V := [.tup [.str [36, 120, 91, 49], .il [.tup [.str [101, 120, 112, 114], .str [36, 120]], .tup [.str [116, 101, 120, 116], .str [91, 49]]]], .tup [.str [36, 120, 123, 105, 116, 39, 115, 125], .il [.tup [.str [101, 120, 112, 114], .str [36, 120, 123, 105, 116, 39, 115, 125]]]], .tup [.str [36, 123, 120], .il [.tup [.str [116, 101, 120, 116], .str [36, 123, 120]]]], .tup [.str [64, 123, 120], .il [.tup [.str [116, 101, 120, 116], .str [64, 123, 120]]]], .tup [.str [36, 120, 45, 62, 91], .il [.tup [.str [101, 120, 112, 114], .str [36, 120]], .tup [.str [116, 101, 120, 116], .str [45, 62, 91]]]], .tup [.str [36], .il [.tup [.str [116, 101, 120, 116], .str [36]]]], .tup [.str [64], .il [.tup [.str [116, 101, 120, 116], .str [64]]]], .tup [.str [36, 36], .il [.tup [.str [116, 101, 120, 116], .str [36, 36]]]], .tup [.str [36, 35], .il [.tup [.str [116, 101, 120, 116], .str [36, 35]]]], .tup [.str [92], .il [.tup [.str [116, 101, 120, 116], .str [92]]]], .tup [.str [92, 85, 36, 120], .il [.tup [.str [99, 97, 115, 101], .str [85], .il [.tup [.str [101, 120, 112, 114], .str [36, 120]]]]]], .tup [.str [92, 85, 97, 92, 117], .il [.tup [.str [116, 101, 120, 116], .str [65]]]], .tup [.str [92, 99], .il [.tup [.str [116, 101, 120, 116], .str [99]]]]]
theorem g10 {Φ : Nat → List V → Mem → O V} {l : Loc} {μ : Mem} : xE Φ (.gl 10) l μ = .ok (.il tailsV) μ := g_at (by rfl)
theorem tail_at {k : Nat} (h : k < 13) : ∃ x ps, tailsV[k]? = some (.tup [.str x, .il (ps.map vl)]) ∧ Tail x ps := by
 have : k = 0 ∨ k = 1 ∨ k = 2 ∨ k = 3 ∨ k = 4 ∨ k = 5 ∨ k = 6 ∨ k = 7 ∨ k = 8 ∨ k = 9 ∨ k = 10 ∨ k = 11 ∨ k = 12 := by lia
 rcases this with rfl | rfl | rfl | rfl | rfl | rfl | rfl | rfl | rfl | rfl | rfl | rfl | rfl
 · exact ⟨[36, 120, 91, 49], [.expr [36, 120], .text [91, 49]], rfl, .a⟩
 · exact ⟨[36, 120, 123, 105, 116, 39, 115, 125], [.expr [36, 120, 123, 105, 116, 39, 115, 125]], rfl, .b⟩
 · exact ⟨[36, 123, 120], [.text [36, 123, 120]], rfl, .c⟩
 · exact ⟨[64, 123, 120], [.text [64, 123, 120]], rfl, .d⟩
 · exact ⟨[36, 120, 45, 62, 91], [.expr [36, 120], .text [45, 62, 91]], rfl, .e⟩
 · exact ⟨[36], [.text [36]], rfl, .f⟩
 · exact ⟨[64], [.text [64]], rfl, .g⟩
 · exact ⟨[36, 36], [.text [36, 36]], rfl, .h⟩
 · exact ⟨[36, 35], [.text [36, 35]], rfl, .i⟩
 · exact ⟨[92], [.text [92]], rfl, .j⟩
 · exact ⟨[92, 85, 36, 120], [.case [85] [.expr [36, 120]]], rfl, .k⟩
 · exact ⟨[92, 85, 97, 92, 117], [.text [65]], rfl, .l⟩
 · exact ⟨[92, 99], [.text [99]], rfl, .m⟩
noncomputable def refusedV : List V := [.str [92, 120, 123, 49, 49, 48, 48, 48, 48, 125], .str [92, 120, 123, 52, 49], .str [92, 111, 123, 55], .str [92, 78, 123, 85, 43, 57], .str [92, 111, 123, 52, 50, 48, 48, 48, 48, 48, 125], .str [92, 78, 123, 85, 43, 102, 102, 102, 102, 102, 102, 102, 102, 125], .str [92, 120, 123]]
theorem c_refused {D : Nat} (hD : 1 ≤ D) (μ : Mem) : evCall fnTab D 31 [] μ = .ok (.il refusedV) μ := by
 obtain ⟨d, rfl, _⟩ := succ_of (n := 0) hD
 rw [evCall_succ rfl]
 refine run_fn rfl ?_
 simp [f_law_refused, refusedV]
theorem refused_at {k : Nat} (h : k < 7) : ∃ x, refusedV[k]? = some (.str x) ∧ Refused x := by
 have : k = 0 ∨ k = 1 ∨ k = 2 ∨ k = 3 ∨ k = 4 ∨ k = 5 ∨ k = 6 := by lia
 rcases this with rfl | rfl | rfl | rfl | rfl | rfl | rfl
 · exact ⟨_, rfl, .a⟩
 · exact ⟨_, rfl, .b⟩
 · exact ⟨_, rfl, .c⟩
 · exact ⟨_, rfl, .d⟩
 · exact ⟨_, rfl, .e⟩
 · exact ⟨_, rfl, .f⟩
 · exact ⟨_, rfl, .g⟩
noncomputable def patE : E := match f_law_pattern_right_b1 with
 | .cons (.assignT _ (.idx e _)) _ => e
 | _ => .none
theorem pat_body : f_law_pattern_right_b1 = .cons (.assignT [6, 7] (.idx patE (.call 32 (.cons (.loc 0) (.cons (.int 8) .nil))))) (.cons (.aug 3 .add (.bin .add (.loc 6) (.str [46]))) (.cons (.assign 4 (.bin .add (.bin .add (.loc 4) (.loc 7)) (.il (.cons (.tup (.cons (.str [116, 101, 120, 116]) (.cons (.str [46]) .nil))) .nil)))) .nil)) := (rfl)
noncomputable def patsL (t d : List Nat) : List (List Nat × List Part) := [
 ([36] ++ t ++ [123] ++ d ++ [44, 97, 125], [.expr ([36] ++ t ++ [123] ++ d ++ [44, 97, 125])]),
 ([36] ++ t ++ [91, 45, 93], [.expr ([36] ++ t), .text [91, 45, 93]]),
 ([36] ++ t ++ [91, 45] ++ d ++ [93], [.expr ([36] ++ t ++ [91, 45] ++ d ++ [93])]),
 ([36] ++ t ++ [123] ++ d ++ [125], [.expr ([36] ++ t), .text ([123] ++ d ++ [125])]),
 ([36] ++ t ++ [91] ++ d ++ [45, 57, 93], [.expr ([36] ++ t), .text ([91] ++ d ++ [45, 57, 93])]),
 ([36] ++ t ++ [123, 97, 44] ++ d ++ [125], [.expr ([36] ++ t ++ [123, 97, 44] ++ d ++ [125])]),
 ([64] ++ t ++ [123] ++ d ++ [44, 125], [.expr ([64] ++ t), .text ([123] ++ d ++ [44, 125])]),
 ([92, 120, 123] ++ d, [.text ([92, 120, 123] ++ d)])]
noncomputable def patsV (t d : List Nat) : List V := (patsL t d).map fun q => .tup [.str q.1, .il (q.2.map vl)]
theorem pats_at (t d : List Nat) {k : Nat} (h : k < 8) : ∃ x ps, (patsV t d)[k]? = some (.tup [.str x, .il (ps.map vl)]) ∧ Pat t d x ps := by
 have : k = 0 ∨ k = 1 ∨ k = 2 ∨ k = 3 ∨ k = 4 ∨ k = 5 ∨ k = 6 ∨ k = 7 := by lia
 rcases this with rfl | rfl | rfl | rfl | rfl | rfl | rfl | rfl
 · exact ⟨_, _, rfl, .a⟩
 · exact ⟨_, _, rfl, .b⟩
 · exact ⟨_, _, rfl, .c⟩
 · exact ⟨_, _, rfl, .d⟩
 · exact ⟨_, _, rfl, .e⟩
 · exact ⟨_, _, rfl, .f⟩
 · exact ⟨_, _, rfl, .g⟩
 · exact ⟨_, _, rfl, .h⟩
noncomputable abbrev patL (t d x : List Nat) (due : V) (turn raw parts : Option V) : Loc := [some (.ref 1), some (.str t), some (.str d), some (.str x), some due, turn, raw, parts]
theorem pat_e {Φ : Nat → List V → Mem → O V} {t d x : List Nat} {due : V} {turn raw parts : Option V} {μ : Mem} (ht : Title t) (hd : Count d) : xE Φ patE (patL t d x due turn raw parts) μ = .ok (.il (patsV t d)) μ := by
 have htl := ht.len
 have hdl := hd.len
 simp (disch := (first | lia | (simp only [List.length_cons, List.length_append, List.length_nil]; lia))) [patE, f_law_pattern_right_b1, patsV, patsL, vl, bin_ss]
structure AccP (m : Nat) (t : List Nat) (ps : List Part) : Prop where
 walk : ∀ r, P (42 * m) t ps r
 sm : Sm t
 len : t.length ≤ 21 * m
 cnt : ps.length ≤ 3 * m
 dp : needs ps ≤ 21
theorem AccP.nil : AccP 0 [] [] := ⟨fun r => ⟨by simp [sz], fun q _ => .refl⟩, by simp [Sm], by simp, by simp, by simp [needs]⟩
theorem Pat.parts {t d x : List Nat} {ps : List Part} (h : Pat t d x ps) : ps.length ≤ 2 ∧ needs ps ≤ 21 := by
 cases h <;> exact ⟨Nat.le_of_ble_eq_true rfl, Nat.le_of_ble_eq_true rfl⟩
theorem AccP.step {m : Nat} {a b t x : List Nat} {ps qs : List Part} (h : AccP m t ps) (ha : Title a) (hb : Count b) (g : Pat a b x qs) : AccP (m + 1) (t ++ (x ++ [46])) (ps ++ (qs ++ [.text [46]])) := by
 have l1 := h.len
 have l2 := (g.sm ha hb).2
 have c1 := h.cnt
 have c2 := g.parts
 have d1 := h.dp
 refine ⟨fun r => (W.app (h.walk _) (g.walk ha hb (r := r))).mono (by lia), Sm.app h.sm (Sm.app (g.sm ha hb).1 (sm_dec rfl)), by simp; lia, by simp; lia, ?_⟩
 rw [needs_app, needs_app]
 simp only [needs, need]
 lia
theorem AccP.parts {m : Nat} {t : List Nat} {ps : List Part} (h : AccP m t ps) (hm : m ≤ 10) : PartsOf true (t ++ [92]) (joins [] (ps ++ [.text [92]])) := by
 have hle := (h.walk []).le
 have h1 := (W.app (h.walk _) pat_last).go [] (by simp [sz]; lia)
 rw [List.append_nil] at h1
 exact ⟨50, _, h1, rfl⟩
theorem pattern_body {e n m : Nat} (he : 1 ≤ e) (hn : n ≤ 700) (hm : m ≤ 10) {μ : Mem} (h : PotL n μ) {t d x : List Nat} {ps : List Part} (ht : Title t) (hd : Count d) (ha : AccP m x ps) {turn raw parts : Option V} :
   ∃ x' ps' μ' raw' parts', xSs (evCall fnTab e) f_law_pattern_right_b1 (patL t d x (.il (ps.map vl)) turn raw parts) μ = .next (patL t d x' (.il (ps'.map vl)) turn raw' parts') μ' ∧ AccP (m + 1) x' ps' ∧ PotL (n + 1) μ' := by
 obtain ⟨k, μ1, a, b, c⟩ := lot (D := e) he (by lia) h 8 (by decide) (i := 8) rfl
 obtain ⟨y, qs, hx, ho⟩ := pats_at t d b
 have hacc := ha.step ht hd ho
 have l1 := ha.len
 have l2 := (ho.sm ht hd).2
 have c1 := ha.cnt
 have c2 := ho.parts.1
 have hcl : (ps.map vl).length ≤ 30 := by simp; lia
 have hql : (qs.map vl).length ≤ 2 := by simpa using c2
 have e0 : ∀ {due : V} {turn raw parts : Option V} {μ : Mem}, xE (evCall fnTab e) patE [some (.ref 1), some (.str t), some (.str d), some (.str x), some due, turn, raw, parts] μ = .ok (.il (patsV t d)) μ := pat_e ht hd
 have e1 : binV .add (.str y) (.str [46]) = some (.str (y ++ [46])) := bin_ss (by simp; lia)
 have e2 : augV .add (.str x) (.str (y ++ [46])) = some (.str (x ++ (y ++ [46]))) := aug_ss (by simp; lia)
 have e3 : binV .add (.il (ps.map vl)) (.il (qs.map vl)) = some (.il (ps.map vl ++ qs.map vl)) := bin_ll (by lia)
 have e4 : ∀ w, binV .add (.il (ps.map vl ++ qs.map vl)) (.il [w]) = some (.il (ps.map vl ++ qs.map vl ++ [w])) := fun w => bin_ll (by simp only [List.length_append, List.length_singleton]; lia)
 have e5 : (ps ++ (qs ++ [Part.text [46]])).map vl = ps.map vl ++ qs.map vl ++ [.tup [.str tx, .str [46]]] := by simp [vl]
 have e6 : idxV μ1 (.il (patsV t d)) (.int (k : Nat)) = some (.tup [.str y, .il (qs.map vl)]) := by rw [ix_l, hx]
 refine ⟨_, _, μ1, some (.str y), some (.il (qs.map vl)), ?_, hacc, c⟩
 rw [e5, pat_body]
 generalize ps.map vl = P at *
 generalize qs.map vl = Q at *
 generalize y ++ [46] = y' at *
 generalize x ++ y' = x' at *
 generalize P ++ Q = PQ at *
 generalize patsV t d = PV at *
 generalize patE = PE at *
 simp [e0, a, e1, e2, e3, e4, e6]
theorem pattern_loop {e : Nat} (he : 1 ≤ e) {t d : List Nat} (ht : Title t) (hd : Count d) : ∀ (xs : List V) (n m : Nat) (μ : Mem) (x : List Nat) (ps : List Part) (turn raw parts : Option V), n + xs.length ≤ 700 → m + xs.length ≤ 10 → PotL n μ → AccP m x ps →
   ∃ x' ps' μ' turn' raw' parts', forS (evCall fnTab e) f_law_pattern_right_b1 5 (fun _ => True) xs (patL t d x (.il (ps.map vl)) turn raw parts) μ = .next (patL t d x' (.il (ps'.map vl)) turn' raw' parts') μ' ∧ AccP (m + xs.length) x' ps' ∧ PotL (n + xs.length) μ'
 | [], n, m, μ, x, ps, turn, raw, parts, _, _, h, ha => ⟨x, ps, μ, turn, raw, parts, by simp, ha, h⟩
 | v :: xs, n, m, μ, x, ps, turn, raw, parts, hn, hm, h, ha => by
   simp only [List.length_cons] at hn hm
   obtain ⟨t1, ps1, μ1, raw1, parts1, a1, a2, a3⟩ := pattern_body (turn := some v) (raw := raw) (parts := parts) he (by lia) (by lia) h ht hd ha
   obtain ⟨t2, ps2, μ2, turn2, raw2, parts2, b1, b2, b3⟩ := pattern_loop he ht hd xs (n + 1) (m + 1) μ1 t1 ps1 (some v) raw1 parts1 (by lia) (by lia) a3 a2
   refine ⟨t2, ps2, μ2, turn2, raw2, parts2, ?_, ?_, ?_⟩
   · rw [forS_cons]
     have e : (patL t d x (.il (ps.map vl)) turn raw parts).set 5 (some v) = patL t d x (.il (ps.map vl)) (some v) raw parts := rfl
     rw [e, a1, bodyK_next, only_T, b1]
   · have : m + (v :: xs).length = m + 1 + xs.length := by simp; lia
     rw [this]; exact b2
   · have : n + (v :: xs).length = n + 1 + xs.length := by simp; lia
     rw [this]; exact b3
theorem c_pattern {D n : Nat} (hD : 96 ≤ D) (hn : n ≤ 600) {μ : Mem} (h : PotL n μ) : ∃ μ', evCall fnTab D 40 [.ref 1] μ = .ok (.bool true) μ' := by
 obtain ⟨e, rfl, he⟩ := succ_of (n := 95) hD
 obtain ⟨t, μ1, a1, ht, p1⟩ := c_title (D := e) (by lia) (by lia) h
 obtain ⟨k, μ2, a2, b2, p2⟩ := lot (D := e) (by lia) (by lia) p1 100 (by decide) (i := 100) rfl
 have hd := digits_count b2
 obtain ⟨j, μ3, a3, b3, p3⟩ := lot (D := e) (by lia) (by lia) p2 4 (by decide) (i := 4) rfl
 have hrl := range_len j
 obtain ⟨x, ps, μ4, turn, raw, parts, l1, l2, l3⟩ := pattern_loop (e := e) (by lia) ht hd ((List.range j).map fun k => V.int (k : Nat)) _ 0 μ3 [] [] none none none (by rw [hrl]; lia) (by rw [hrl]; lia) p3 AccP.nil
 rw [hrl] at l2 l3
 have hxl := l2.len
 have hcl := l2.cnt
 have hle := (l2.walk []).le
 have hdp := l2.dp
 have e2 : biV μ2 .str [.int (k : Nat)] = some (.str (digitsOf k)) := by rw [bi_str (by lia) (by lia)]; rfl
 have e3 : (0 : Int) ≤ (j : Nat) ∧ ((j : Nat) : Int) < 1000000 := by lia
 have e4 : binV .add (.str x) (.str [92]) = some (.str (x ++ [92])) := bin_ss (by simp; lia)
 have e5 : ∀ w, binV .add (.il (ps.map vl)) (.il [w]) = some (.il (ps.map vl ++ [w])) := fun w => bin_ll (by simp; lia)
 have e6 : (ps ++ [Part.text [92]]).map vl = ps.map vl ++ [.tup [.str tx, .str [92]]] := by simp [vl]
 obtain ⟨p, μ5, f, μ6, q1, q2, q3, q4⟩ := same_parts (d := e) he (pat := true) (t := x ++ [92]) (ps := ps ++ [.text [92]]) (μ := μ4) ⟨by simp; lia, Sm.app l2.sm (sm_dec rfl)⟩ (l2.parts (by lia)) (by rw [sz_app]; simp [sz_cons, sz_nil, szp]; lia) (by rw [needs_app]; simp [needs, need]; lia) (by simp; lia)
 have q5 := cmp_eq_same q3
 rw [e6] at q2
 refine ⟨μ6, ?_⟩
 rw [evCall_succ rfl]
 refine run_fn rfl ?_
 simp only [List.map_nil] at l1
 generalize digitsOf k = dd at *
 generalize x ++ [92] = x' at *
 generalize ps.map vl = P at *
 simp [f_law_pattern_right, a1, a2, e2, a3, e3, l1, e4, e5, q1, q2, q5]
theorem e_map2 {Φ : OK} {elt : E} {t caps : List Nat} {l : Loc} {μ : Mem} {f : Nat → V} (hl : t.length ≤ 1000) (hc : ∀ c ∈ t, ∀ μ', xE Φ elt (some (.str [c]) :: caps.map fun c => (l[c]?).join) μ' = .ok (f c) μ') :
   xE Φ (.comp caps elt (.str t) (.bool true)) l μ = .ok (.ref μ.length) (μ ++ [t.map f]) := by
 have e := e_run (C := .bool true) (h := fun c => V.str [c]) (fun _ => true) (e_str (μ := μ) (l := l) t) rfl (fun ws => trivial) hl (fun _ _ _ => rfl) hc
 rw [List.filter_eq_self.mpr fun _ _ => rfl] at e; exact e
theorem e_map3 {Φ : OK} {elt it : E} {is : List Int} {l : Loc} {μ : Mem} {f : Int → V} (hl : is.length ≤ 1000) (hi : xE Φ it l μ = .ok (.il (is.map V.int)) μ) (hc : ∀ i ∈ is, ∀ μ', xE Φ elt [some (.int i)] μ' = .ok (f i) μ') :
   xE Φ (.comp [] elt it (.bool true)) l μ = .ok (.ref μ.length) (μ ++ [is.map f]) := by
 have e := e_run (caps := []) (C := .bool true) (h := V.int) (fun _ => true) hi rfl (fun ws => trivial) hl (fun _ _ _ => rfl) hc
 rw [List.filter_eq_self.mpr fun _ _ => rfl] at e; exact e
theorem fl_strs (μ : Mem) : ∀ ss : List (List Nat), FlL μ 1 (ss.map V.str) (ss.map V.str)
 | [] => .nil
 | s :: ss => .cons (Fl.str μ s) (fl_strs μ ss)
theorem eq_strs {μ : Mem} {r : Nat} {ss : List (List Nat)} (h : μ[r]? = some (ss.map V.str)) (hl : ss.length ≤ 50) : cmpV μ .ne (.ref r) (.il (ss.map V.str)) = some false := by
 show (eqL μ (.ref r) (.il (ss.map V.str))).map (!·) = _
 have f1 := Fl.ref h (fl_strs μ ss) 60 (by simp; lia)
 have f2 := Fl.il (fl_strs μ ss) 60 (by simp; lia)
 rw [eq_same (a := .ref r) h rfl rfl f1 f2]; rfl
noncomputable abbrev lawS (script : V) (t : List Nat) (due : List V) (turn refused whole code sign raw parts : Option V) : Loc := [some script, some (.ref 1), some (.str t), some (.il due), turn, refused, whole, code, sign, raw, parts]
section
variable {Φ : OK} {l : Loc} {μ μ₁ μ' : Mem} {a b : E} {x y v : V} {es : Es} {vs : List V} {c : Bool}
theorem x_cmp {op : Cop} (h : xE Φ a l μ = .ok x μ₁) (h' : xE Φ b l μ₁ = .ok y μ') (k : cmpV μ' op x y = some c) : xE Φ (.cmp op a b) l μ = .ok (.bool c) μ' := by
 rw [e_cmp, h, ob_ok, cmpK_r, h', ob_ok1, cmpK2_r, k]; rfl
theorem x_il (h : xEs Φ es l μ = .ok vs μ') : xE Φ (.il es) l μ = .ok (.il vs) μ' := by
 rw [e_il, h]; rfl
theorem cmp_no (g : List Nat) : cmpV μ .ne (.str g) (.str g) = some false := by rw [cmp_ne_ss, beq_self_eq_true]; rfl
theorem cmp_nob (g : Bool) : cmpV μ .ne (.bool g) (.bool g) = some false := by cases g <;> rfl
noncomputable def Kv {α : Type} (v : α) (μ : Mem) (x : O α) : Prop := ∃ μ', x = .ok v μ' ∧ Keep μ.length μ μ'
theorem Keep.chain {a b c : Mem} (k : Keep a.length a b) (h : Keep b.length b c) : Keep a.length a c := ⟨fun i hi => (h.1 i (Nat.lt_of_lt_of_le hi k.2)).trans (k.1 i hi), Nat.le_trans k.2 h.2⟩
theorem Kv.ca {f : Nat} (h : xE Φ a l μ = .ok x μ) (k : Kv v μ (Φ f [x] μ)) : Kv v μ (xE Φ (.call f (.cons a .nil)) l μ) := by
 obtain ⟨μ1, k1, k2⟩ := k
 exact ⟨μ1, x_ca1 h k1, k2⟩
theorem Kv.bin (h : Kv x μ (xE Φ a l μ)) (h' : ∀ μ, xE Φ b l μ = .ok y μ) (k : binV .add x y = some v) : Kv v μ (xE Φ (.bin .add a b) l μ) := by
 obtain ⟨μ1, k1, k2⟩ := h
 exact ⟨μ1, x_bin k1 (h' μ1) k, k2⟩
theorem Kv.cons (h : Kv x μ (xE Φ a l μ)) (g : ∀ μ, Kv vs μ (xEs Φ es l μ)) : Kv (x :: vs) μ (xEs Φ (.cons a es) l μ) := by
 obtain ⟨μ1, k1, k2⟩ := h
 obtain ⟨μ2, k3, k4⟩ := g μ1
 exact ⟨μ2, by rw [es_cons, k1, ob_ok, consK_r, k3]; rfl, k2.chain k4⟩
theorem Kv.nil : Kv [] μ (xEs Φ .nil l μ) := ⟨μ, rfl, .refl _ _⟩
end
noncomputable abbrev fiveV (c : Nat) : List V := [[gr c, gr c], [sm c, sm c], [sm c, sm c], [gr c, c], [sm c, c]].map V.str
section
variable {d c : Nat} {l : Loc} (hd : 1 ≤ d) (hl : ∀ μ, xE (evCall fnTab d) (.loc 8) l μ = .ok (.str [c]) μ)
include hl hd
theorem le_two (μ : Mem) : xE (evCall fnTab d) (.bin .add (.loc 8) (.loc 8)) l μ = .ok (.str [c, c]) μ := x_bin (hl μ) (hl μ) (bin_ss (a := [c]) (b := [c]) (by decide : 2 ≤ 1000000))
theorem le_gr (μ : Mem) : Kv (.str [gr c, gr c]) μ (xE (evCall fnTab d) (.call 34 (.cons (.bin .add (.loc 8) (.loc 8)) .nil)) l μ) := .ca (le_two hd hl μ) (c_upper hd (t := [c, c]) (by decide : 2 ≤ 1000))
theorem le_sm (μ : Mem) : Kv (.str [sm c, sm c]) μ (xE (evCall fnTab d) (.call 35 (.cons (.bin .add (.loc 8) (.loc 8)) .nil)) l μ) := .ca (le_two hd hl μ) (c_lower hd (t := [c, c]) (by decide : 2 ≤ 1000))
theorem le_gr1 (μ : Mem) : Kv (.str [gr c, c]) μ (xE (evCall fnTab d) (.bin .add (.call 34 (.cons (.loc 8) .nil)) (.loc 8)) l μ) := .bin (.ca (hl μ) (c_upper hd (t := [c]) (by decide : 1 ≤ 1000))) hl (bin_ss (a := [gr c]) (b := [c]) (by decide : 2 ≤ 1000000))
theorem le_sm1 (μ : Mem) : Kv (.str [sm c, c]) μ (xE (evCall fnTab d) (.bin .add (.call 35 (.cons (.loc 8) .nil)) (.loc 8)) l μ) := .bin (.ca (hl μ) (c_lower hd (t := [c]) (by decide : 1 ≤ 1000))) hl (bin_ss (a := [sm c]) (b := [c]) (by decide : 2 ≤ 1000000))
theorem le_five (μ : Mem) : Kv (fiveV c) μ (xEs (evCall fnTab d) (.cons (.call 34 (.cons (.bin .add (.loc 8) (.loc 8)) .nil)) (.cons (.call 35 (.cons (.bin .add (.loc 8) (.loc 8)) .nil)) (.cons (.call 35 (.cons (.bin .add (.loc 8) (.loc 8)) .nil)) (.cons (.bin .add (.call 34 (.cons (.loc 8) .nil)) (.loc 8)) (.cons (.bin .add (.call 35 (.cons (.loc 8) .nil)) (.loc 8)) .nil))))) l μ) :=
 .cons (le_gr hd hl μ) fun μ => .cons (le_sm hd hl μ) fun μ => .cons (le_sm hd hl μ) fun μ => .cons (le_gr1 hd hl μ) fun μ => .cons (le_sm1 hd hl μ) fun μ => .nil
end
theorem le_in {Φ : OK} {c : Nat} {l : Loc} {μ : Mem} (hl : xE Φ (.loc 8) l μ = .ok (.str [c]) μ) : xE Φ (.cmp .isIn (.loc 8) (.bin .add (.bin .add (.gl 7) (.gl 8)) (.gl 9))) l μ = .ok (.bool (word c)) μ := by
 rw [← all_has]
 exact x_in hl (x_bin (x_bin g7 g8 (bin_ss (by decide))) g9 (bin_ss (by decide)))
theorem le_words {Φ : OK} {c : Nat} {g : List Nat} {l : Loc} {μ μ2 : Mem} (hl : xE Φ (.loc 8) l μ = .ok (.str [c]) μ) (h7 : Φ 7 [.str [c]] μ = .ok (.bool (word c)) μ) (h8 : Φ 8 [.str [81], .str [c]] μ = .ok (.str g) μ) (h36 : Φ 36 [.str [c]] μ = .ok (.str g) μ2) :
   xE Φ (.or (.cons (.cmp .ne (.call 7 (.cons (.loc 8) .nil)) (.cmp .isIn (.loc 8) (.bin .add (.bin .add (.gl 7) (.gl 8)) (.gl 9)))) (.cons (.cmp .ne (.call 8 (.cons (.str [81]) (.cons (.loc 8) .nil))) (.call 36 (.cons (.loc 8) .nil))) .nil))) l μ = .ok (.bool false) μ2 :=
 x_orF (x_cmp (x_ca1 hl h7) (le_in hl) (cmp_nob _)) (x_or1 (x_cmp (x_ca2 rfl hl h8) (x_ca1 hl h36) (cmp_no _)))
theorem le_map {d c : Nat} (hd : 3 ≤ d) {l : Loc} (hl : (l[8]?).join = some (.str [c])) (μ : Mem) : xE (evCall fnTab d) (.comp [8] (.call 8 (.cons (.loc 0) (.cons (.bin .add (.loc 1) (.loc 1)) .nil))) (.str [85, 76, 70, 117, 108]) (.bool true)) l μ = .ok (.ref μ.length) (μ ++ [fiveV c]) := by
 have hm := e_map2 (Φ := evCall fnTab d) (t := [85, 76, 70, 117, 108]) (caps := [8]) (l := l) (μ := μ) (f := fun m => .str (cased m [c, c])) (elt := .call 8 (.cons (.loc 0) (.cons (.bin .add (.loc 1) (.loc 1)) .nil))) (by decide) (fun m _ μ' => by
   rw [List.map_cons, hl]
   exact x_ca2 rfl (x_bin rfl rfl (bin_ss (a := [c]) (b := [c]) (by decide : 2 ≤ 1000000))) (c_cased (by decide : 2 ≤ 500000) hd))
 rw [hm, List.map_cons, List.map_cons, List.map_cons, List.map_cons, List.map_cons, case_up, case_low [c, c] (.inl rfl), case_low [c, c] (.inr rfl), case_u, case_l]; rfl
theorem law_end {d n : Nat} (hd : 96 ≤ d) (hn : n ≤ 500) {μ : Mem} (h : PotL n μ) {script : V} {t : List Nat} {due : List V} {turn refused whole code sign raw parts : Option V} :
   ∃ μ', xSs (evCall fnTab d) (dropS 9 f_law.body) (lawS script t due turn refused whole code sign raw parts) μ = .ret (.bool true) μ' := by
 have hd1 : 1 ≤ d := Nat.le_trans (by decide) hd
 have hd3 : 3 ≤ d := Nat.le_trans (by decide) hd
 obtain ⟨c, μ1, a1, b1, p1⟩ := lot (D := d) hd1 (by lia) h 128 (by decide) (i := 128) rfl
 obtain ⟨μ2, a2, k2⟩ := c_guarded (D := d) hd1 (t := [c]) (by decide : 1 ≤ 1000) (μ := μ1)
 obtain ⟨μ8, a8, k8⟩ := le_five (c := c) (l := lawS script t due turn refused whole (some (.int (c : Nat))) (some (.str [c])) raw parts) hd1 (fun _ => rfl) (μ2 ++ [fiveV c])
 have hr : μ8[μ2.length]? = some (fiveV c) := (k8.1 _ (by rw [List.length_append]; exact Nat.lt_succ_self _)).trans List.getElem?_concat_length
 obtain ⟨μ9, a9⟩ := c_pattern (D := d) hd (by lia) (((p1.keep k2).keep (Keep.alloc (Nat.le_refl _) (fiveV c))).keep k8)
 have h8 := c_cased (D := d) (m := 81) (t := [c]) (μ := μ1) (by decide : 1 ≤ 500000) hd3
 rw [case_guard (w := [c]) fun x hx => List.mem_singleton.mp hx ▸ b1] at h8
 exact ⟨μ9, z_as (P := fun x => x) (x_ca2 rfl rfl a1) (z_as (P := fun x => x) (x_bi1 rfl (bi_chr (by lia))) (z_f (P := fun x => x) (le_words rfl (c_word hd1) h8 a2)
   (z_f (P := fun x => x) (x_cmp (le_map hd3 rfl μ2) (x_il a8) (eq_strs hr (by decide : 5 ≤ 50))) (z_ret (P := fun x => x) (x_ca1 rfl a9) rfl))))⟩
theorem z_exx {Φ : OK} {ss : Ss} {e : E} {l : Loc} {μ μ' : Mem} (h : xE Φ e l μ = .exc μ') : xSs Φ (.cons (.expr e) ss) l μ = .exc l μ' := by
 rw [ss_cons, s_expr, h]; rfl
theorem refuse_body {d : Nat} (hd : 95 ≤ d) {μ : Mem} {w : List Nat} (hs : Okt w) (hr : Refuse w) {script : V} {t : List Nat} {due : List V} {turn refused code sign raw parts : Option V} :
   ∃ μ', xSs (evCall fnTab d) f_law_b1 (lawS script t due turn refused (some (.str w)) code sign raw parts) μ = .next (lawS script t due turn refused (some (.str w)) code sign (some (.str w)) parts) μ' ∧ Keep μ.length μ μ' := by
 obtain ⟨μ', a, k⟩ := c_parts_exc (D := d) hd (μ := μ) hs hr
 exact ⟨μ', seq_next (try_exc (i := 9) (v := .str w) (z_exx (x_ca2 rfl rfl a)) rfl) rfl, k⟩
theorem refuse_all {d n : Nat} (hd : 95 ≤ d) {st : Mem → Prop} (hst : ∀ μ, st μ) : ∀ (ws : List (List Nat)) (μ : Mem) (script : V) (t : List Nat) (due : List V) (turn refused whole code sign raw parts : Option V), (∀ w ∈ ws, Okt w ∧ Refuse w) → PotL n μ →
   ∃ μ' whole' raw', forS (evCall fnTab d) f_law_b1 6 st (ws.map V.str) (lawS script t due turn refused whole code sign raw parts) μ = .next (lawS script t due turn refused whole' code sign raw' parts) μ' ∧ PotL n μ'
 | [], μ, script, t, due, turn, refused, whole, code, sign, raw, parts, _, h => ⟨μ, whole, raw, by simp, h⟩
 | w :: ws, μ, script, t, due, turn, refused, whole, code, sign, raw, parts, hw, h => by
   have h1 := hw w (.head _)
   obtain ⟨μ1, a, k⟩ := refuse_body (d := d) hd (μ := μ) h1.1 h1.2 (script := script) (t := t) (due := due) (turn := turn) (refused := refused) (code := code) (sign := sign) (raw := raw) (parts := parts)
   obtain ⟨μ2, whole2, raw2, b, c⟩ := refuse_all hd hst ws μ1 script t due turn refused (some (.str w)) code sign (some (.str w)) parts (fun x hx => hw x (.tail _ hx)) (h.keep k)
   refine ⟨μ2, whole2, raw2, ?_, c⟩
   rw [List.map_cons, forS_cons]
   have e : (lawS script t due turn refused whole code sign raw parts).set 6 (some (.str w)) = lawS script t due turn refused (some (.str w)) code sign raw parts := rfl
   rw [e, a, bodyK_next, only_t (hst _), b]
theorem Kv.same {d : Nat} (hd : 95 ≤ d) {t : List Nat} {ps : List Part} {μ : Mem} {a b : E} {l : Loc} (hs : Okt t) (hp : PartsOf false t (joins [] ps)) (hz : sz ps ≤ 100000) (hn : needs ps ≤ 21) (hl : ps.length ≤ 30) (ha : xE (evCall fnTab d) a l μ = .ok (.str t) μ) (hb : ∀ μ, xE (evCall fnTab d) b l μ = .ok (.il (ps.map vl)) μ) :
   Kv (.bool false) μ (xE (evCall fnTab d) (.cmp .ne (.call 28 (.cons a (.cons (.bool false) .nil))) (.call 39 (.cons b .nil))) l μ) := by
 obtain ⟨p, μ1, f, μ2, c1, c2, c3, c4⟩ := same_parts (μ := μ) hd hs hp hz hn hl
 exact ⟨μ2, x_cmp (x_ca2 ha rfl c1) (x_ca1 (hb _) c2) (cmp_ne_same c3), c4⟩
theorem Kv.or {Φ : OK} {l : Loc} {μ : Mem} {a b : E} (h : Kv (.bool false) μ (xE Φ a l μ)) (g : ∀ μ, Kv (.bool false) μ (xE Φ b l μ)) : Kv (.bool false) μ (xE Φ (.or (.cons a (.cons b .nil))) l μ) := by
 obtain ⟨μ1, k1, k2⟩ := h
 obtain ⟨μ2, k3, k4⟩ := g μ1
 exact ⟨μ2, x_orF k1 (x_or1 k3), k2.chain k4⟩
section
variable {d n m : Nat} {script : V} {t x y : List Nat} {ps qs : List Part} {turn refused whole code sign raw parts : Option V} {μ : Mem}
theorem lm_cond (hd : 95 ≤ d) (hm : m ≤ 5) (ha : Acc m t ps) (hT : Tail x qs) :
   Kv (.bool false) μ (xE (evCall fnTab d) (.or (.cons (.cmp .ne (.call 28 (.cons (.loc 2) (.cons (.bool false) .nil))) (.call 39 (.cons (.loc 3) .nil))) (.cons (.cmp .ne (.call 28 (.cons (.bin .add (.loc 2) (.loc 9)) (.cons (.bool false) .nil))) (.call 39 (.cons (.bin .add (.loc 3) (.loc 10)) .nil))) .nil)))
     (lawS script t (ps.map vl) turn refused whole code sign (some (.str x)) (some (.il (qs.map vl)))) μ) := by
 have hle := (ha.walk []).le
 have hal := ha.len
 have hac := ha.cnt
 have htl := hT.len
 have htp := hT.parts
 have hdp := ha.dp
 have hm10 : m ≤ 10 := Nat.le_trans hm (by decide)
 refine .or (.same hd ⟨by lia, ha.sm⟩ (ha.parts hm10) (by lia) ha.dp (by lia) rfl fun _ => rfl) fun μ => .same (t := t ++ x) (ps := ps ++ qs) hd ⟨?_, Sm.app ha.sm hT.sm⟩ (ha.tail hm10 hT) ?_ ?_ ?_ (x_bin rfl rfl (bin_ss (by lia))) fun _ => ?_
 · rw [List.length_append]; lia
 · rw [sz_app]; lia
 · rw [needs_app]; lia
 · rw [List.length_append]; lia
 · rw [List.map_append]
   exact x_bin rfl rfl (bin_ll (by rw [List.length_map, List.length_map]; lia))
theorem lm_ref (hd : 96 ≤ d) (hm : m ≤ 5) (ha : Acc m t ps) (hR : Refused y) (p : PotL n μ) :
   ∃ w2 μ', xSs (evCall fnTab d) (dropS 7 f_law.body) (lawS script t (ps.map vl) turn (some (.str y)) whole code sign raw parts) μ = xSs (evCall fnTab d) (dropS 9 f_law.body) (lawS script t (ps.map vl) turn (some (.str y)) w2 code sign (some (.str [])) parts) μ' ∧ PotL n μ' := by
 have hyl := hR.len
 have hal := ha.len
 have ok1 : Okt y := ⟨by lia, hR.sm⟩
 have ok2 : Okt (t ++ y) := ⟨by rw [List.length_append]; lia, Sm.app ha.sm hR.sm⟩
 obtain ⟨μ7, w7, r7, g1, g2⟩ := refuse_all (d := d) (Nat.le_of_succ_le hd) (st := stays (.il ([t ++ y, y].map V.str)) ([t ++ y, y].map V.str)) (fun _ => trivial) [t ++ y, y] μ script t (ps.map vl) turn (some (.str y)) whole code sign raw parts (fun w hw => by
   rcases List.mem_cons.mp hw with rfl | hw
   · exact ⟨ok2, ha.refuse (Nat.le_trans hm (by decide)) hR⟩
   · exact List.mem_singleton.mp hw ▸ ⟨ok1, hR.refuse⟩) p
 obtain ⟨μ8, i1, i2⟩ := c_plain_exc (D := d) hd (μ := μ7) ok1 hR.refuse
 have hL : xE (evCall fnTab d) (.il (.cons (.bin .add (.loc 2) (.loc 5)) (.cons (.loc 5) .nil))) (lawS script t (ps.map vl) turn (some (.str y)) whole code sign raw parts) μ = .ok (.il ([t ++ y, y].map V.str)) μ :=
   x_il (by rw [es_cons, x_bin rfl rfl (bin_ss (a := t) (b := y) (by lia))]; rfl)
 refine ⟨w7, μ8, seq_next ?_ (seq_next (l' := lawS script t (ps.map vl) turn (some (.str y)) w7 code sign (some (.str [])) parts) (try_exc (i := 9) (l := lawS script t (ps.map vl) turn (some (.str y)) w7 code sign r7 parts) (z_exx (x_ca1 rfl i1)) (e_str [])) rfl), g2.keep i2⟩
 rw [s_forE', hL, of_ok, forK_r]
 exact g1
end
theorem law_mid {d n m : Nat} (hd : 97 ≤ d) (hn : n ≤ 400) (hm : m ≤ 5) {μ : Mem} (h : PotL n μ) {script : V} {t : List Nat} {ps : List Part} (ha : Acc m t ps) {turn refused whole code sign raw parts : Option V} :
   ∃ μ', xSs (evCall fnTab d) (dropS 4 f_law.body) (lawS script t (ps.map vl) turn refused whole code sign raw parts) μ = .ret (.bool true) μ' := by
 have hd1 : 1 ≤ d := Nat.le_trans (by decide) hd
 have hd96 : 96 ≤ d := Nat.le_of_succ_le hd
 obtain ⟨k, μ1, a1, b1, p1⟩ := lot (D := d) hd1 (by lia) h 13 (by decide) (i := 13) rfl
 obtain ⟨x, qs, hx, hT⟩ := tail_at b1
 obtain ⟨μ5, c1, c2⟩ := lm_cond (d := d) (μ := μ1) (script := script) (turn := turn) (refused := refused) (whole := whole) (code := code) (sign := sign) (Nat.le_of_succ_le hd96) hm ha hT
 obtain ⟨j, μ6, e1, f1, p6⟩ := lot (D := d) hd1 (by lia) (p1.keep c2) 7 (by decide) (i := 7) rfl
 obtain ⟨y, hy, hR⟩ := refused_at f1
 obtain ⟨w7, μ8, g1, p8⟩ := lm_ref (d := d) (script := script) (turn := turn) (whole := whole) (code := code) (sign := sign) (raw := some (.str x)) (parts := some (.il (qs.map vl))) hd96 hm ha hR p6
 obtain ⟨μ9, j1⟩ := law_end (d := d) (n := n + 2) hd96 (by lia) p8 (script := script) (t := t) (due := ps.map vl) (turn := turn) (refused := some (.str y)) (whole := w7) (code := code) (sign := sign) (raw := some (.str [])) (parts := some (.il (qs.map vl)))
 exact ⟨μ9, z_asT (P := fun x => x) (x_idx g10 (x_ca2 rfl rfl a1) (ix_l.trans hx)) rfl (z_f (P := fun x => x) c1 (z_as (P := fun x => x) (x_idx (x_cas rfl (c_refused hd1 μ5)) (x_ca2 rfl rfl e1) (ix_l.trans hy)) (g1.trans j1)))⟩
theorem plain_law : ∃ d, d ≤ 500 ∧ ∀ ns : List Int, ns.length ≤ 63 → ∃ μ', runFn (evCall fnTab d) f_law [.il (ns.map .int)] [] = .ok (.bool true) μ' := by
 refine ⟨100, by decide, fun ns hns => ?_⟩
 have hL : LIM = 1048576 := rfl
 have hsl : sliceV (.il (ns.map V.int)) .none (.int 40) = some (.il ((ns.take 40).map V.int)) := by
   rw [List.map_take]; rfl
 have hpw : binV .pow (.int 10) (.int 9) = some (.int 1000000000) := (rfl)
 have hmd : ∀ i : Int, binV .mod (.int i) (.int 1000000000) = some (.int (i % 1000000000)) := fun i => bin_mod_ii (by decide)
 have hit : xE (evCall fnTab 100) (.slice (.loc 0) .none (.int 40)) [some (.il (ns.map V.int)), none, none, none, none, none, none, none, none, none, none] [] = .ok (.il ((ns.take 40).map V.int)) [] := by simp [hsl]
 have hm := e_map3 (Φ := evCall fnTab 100) (is := ns.take 40) (μ := []) (f := fun i => .int (i % 1000000000)) (elt := .bin .mod (.loc 0) (.bin .pow (.int 10) (.int 9))) (by simp; lia) hit (fun i _ μ' => by simp [hpw, hmd])
 have hC : (ns.take 40).map (fun i => V.int (i % 1000000000)) = ((ns.take 40).map fun i => i % 1000000000).map V.int := by rw [List.map_map]; rfl
 rw [hC] at hm
 generalize (ns.take 40).map (fun i => i % 1000000000) = C at hm
 have p0 : PotL 0 [C.map V.int, [.ref 0, .int 0]] := ⟨0, Nat.le_refl _, C, rfl, rfl⟩
 obtain ⟨k, μ1, a1, b1, p1⟩ := lot (D := 100) (by decide) (by decide) p0 5 (by decide) (i := 5) rfl
 have hrl := range_len (1 + k)
 obtain ⟨t, ps, μ2, turn, raw, parts, c1, c2, c3⟩ := law_loop (d := 100) (by decide) (script := .il (ns.map V.int)) ((List.range (1 + k)).map fun k => V.int (k : Nat)) 1 0 μ1 [] [] none none none (by rw [hrl]; lia) (by rw [hrl]; lia) p1 Acc.nil
 rw [hrl] at c2 c3
 obtain ⟨μ3, e1⟩ := law_mid (d := 100) (n := 1 + 12 * (1 + k)) (m := 0 + (1 + k)) (by decide) (by lia) (by lia) c3 c2 (script := .il (ns.map V.int)) (turn := turn) (refused := none) (whole := none) (code := none) (sign := none) (raw := raw) (parts := parts)
 refine ⟨μ3, ?_⟩
 refine run_fn rfl ?_
 have hf : xSs (evCall fnTab 100) f_law.body [some (.il (ns.map V.int)), none, none, none, none, none, none, none, none, none, none] [] = .ret (.bool true) μ3 := by
   refine seq_next (l' := [some (.il (ns.map V.int)), some (.ref 1), none, none, none, none, none, none, none, none, none]) (μ' := [C.map V.int, [.ref 0, .int 0]]) ?_ ?_
   · simp only [List.length_nil, List.nil_append] at hm
     have ha : allocV [.ref 0, .int 0] [C.map V.int] = .ok (.ref 1) [C.map V.int, [.ref 0, .int 0]] := if_pos (by rw [hL]; decide)
     simp [hm, ha]
   refine seq_next (l' := [some (.il (ns.map V.int)), some (.ref 1), some (.str []), none, none, none, none, none, none, none, none]) (μ' := [C.map V.int, [.ref 0, .int 0]]) (by simp) ?_
   refine seq_next (l' := lawS (.il (ns.map V.int)) [] [] none none none none none none none) (μ' := [C.map V.int, [.ref 0, .int 0]]) (by simp) ?_
   refine seq_next ?_ e1
   have x1 : (1 : Int) + (k : Int) = ((1 + k : Nat) : Int) := by lia
   have x3 : (0 : Int) ≤ ((1 + k : Nat) : Int) ∧ (((1 + k : Nat)) : Int) < 1000000 := by lia
   simp only [List.map_nil] at c1
   generalize 1 + k = j at *
   simp [a1, x1, x3, c1]
 show finK (xSs (evCall fnTab 100) f_law.body [some (.il (ns.map V.int)), none, none, none, none, none, none, none, none, none, none] []) = _
 rw [hf, finK_ret]
end Mine
end
section
open PySem PySem.W PyProof.Rows
theorem PySem.Challenge.cw_qd0142_01_holds : PySem.Challenge.rw_qd0142_01.Holds :=
 Mine.the_law Mine.plain_law
end
