import PyProof.Rows.All
import Wide.All
import OpenK.AllK
import Wide.FinOn
import HandS.ForMost
import KE.KDictKeyed
import KE.KDictWalk
import KE.KDictDisplayH
import KE.SortData
import HandS.Exc
import HandS.Nested
import HandS.TupAny
import HandS.TupMul
import HandS.Style
import HandS.IsInst
import HandS.Wide
import HandS.TryMany
import KE.DataCmp
import HandS.TupLen
import HandS.WordsDict
import HandS.WideBits
import HandS.ExcOwn
import HandS.Zip
import HandS.Comp
import HandS.Dict
import HandS.Deep
import HandS.DictTup
import HandS.SortInts
import KE.GoesMore
import PyProof.EnumMake
import HandS.Defaults
import HandS.HeadHook4
import HandS.Ends
import HandS.Head0
import HandS.Head1
import HandS.Head2
import HandS.HeadEnd
import HandS.Conv
import PyProof.ReprReads
import PyProof.ReprRoads
import PyProof.CallFns
import HandS.EndTab
import PySem.Challenge.RW_beginningswaps_k12_whole_words_by_beginn
import Lean
import KE.KStateDown
set_option Elab.async false
set_option linter.all false
set_option maxRecDepth 100000
/-! Dz: an evaluator for the programs' language, by plain data, each construct a function (a combinator) with ways on; what it reckons is shown further down to be what the model does. Written for the kernel: small bodies, recursors by hand. -/
namespace Dz
open PySem
noncomputable section
/-! ### values -/
inductive Ty where
  | int | bool | str | list | tuple | dict | none | own (k : Nat) | bexc (n : Nat)
inductive DV where
  | non | bl (b : Bool) | int (i : Int) | str (x : List Nat)
  | tup (xs : List DV)
  | ref (i : Nat)
  | fn (k : Nat) (caps : List DV)
  | exn (c : Nat) (fs : List DV)
  | cl (t : Ty)
inductive DObj where
  | lst (xs : List DV)
  | dic (kvs : List (DV × DV))
  | cell (d : Option DV)
  | pot
  /-- a dict whose keys are tuples of any data -/
  | busy (kvs : List (DV × DV))
/-! ### taking apart, with little to unfold -/
def cnd {α : Type} (c : Bool) (a b : α) : α := Bool.rec b a c
def onO {α β : Type} (d : β) (o : Option α) (k : α → β) : β := Option.rec d k o
def onI {α : Type} (d : α) (x : DV) (k : Int → α) : α := DV.casesOn x d (fun _ => d) k (fun _ => d) (fun _ => d) (fun _ => d) (fun _ _ => d) (fun _ _ => d) (fun _ => d)
def onB {α : Type} (d : α) (x : DV) (k : Bool → α) : α := DV.casesOn x d k (fun _ => d) (fun _ => d) (fun _ => d) (fun _ => d) (fun _ _ => d) (fun _ _ => d) (fun _ => d)
def onS {α : Type} (d : α) (x : DV) (k : List Nat → α) : α := DV.casesOn x d (fun _ => d) (fun _ => d) k (fun _ => d) (fun _ => d) (fun _ _ => d) (fun _ _ => d) (fun _ => d)
def onT {α : Type} (d : α) (x : DV) (k : List DV → α) : α := DV.casesOn x d (fun _ => d) (fun _ => d) (fun _ => d) k (fun _ => d) (fun _ _ => d) (fun _ _ => d) (fun _ => d)
def onR {α : Type} (d : α) (x : DV) (k : Nat → α) : α := DV.casesOn x d (fun _ => d) (fun _ => d) (fun _ => d) (fun _ => d) k (fun _ _ => d) (fun _ _ => d) (fun _ => d)
def onF {α : Type} (d : α) (x : DV) (k : Nat → List DV → α) : α := DV.casesOn x d (fun _ => d) (fun _ => d) (fun _ => d) (fun _ => d) (fun _ => d) k (fun _ _ => d) (fun _ => d)
/-- the law's script -/
def onScr {α : Type} (d : α) (x : DV) (k : Nat → α) : α := DV.casesOn x d (fun _ => d) (fun _ => d) (fun _ => d) (fun _ => d) (fun _ => d) (fun _ _ => d) (fun _ _ => d) (fun t => Ty.casesOn t d d d d d d d k (fun _ => d))
def onX {α : Type} (d : α) (x : DV) (k : Nat → List DV → α) : α := DV.casesOn x d (fun _ => d) (fun _ => d) (fun _ => d) (fun _ => d) (fun _ => d) (fun _ _ => d) k (fun _ => d)
def obL {α : Type} (d : α) (o : Option DObj) (k : List DV → α) : α := Option.rec d (fun o => DObj.casesOn o k (fun _ => d) (fun _ => d) d (fun _ => d)) o
def obD {α : Type} (d : α) (o : Option DObj) (k : List (DV × DV) → α) : α := Option.rec d (fun o => DObj.casesOn o (fun _ => d) k (fun _ => d) d (fun _ => d)) o
def obC {α : Type} (d : α) (o : Option DObj) (k : Option DV → α) : α := Option.rec d (fun o => DObj.casesOn o (fun _ => d) (fun _ => d) k d (fun _ => d)) o
def obP {α : Type} (d : α) (o : Option DObj) (k : α) : α := Option.rec d (fun o => DObj.casesOn o (fun _ => d) (fun _ => d) (fun _ => d) k (fun _ => d)) o
def obN {α : Type} (d : α) (o : Option DObj) (k : List (DV × DV) → α) : α := Option.rec d (fun o => DObj.casesOn o (fun _ => d) (fun _ => d) (fun _ => d) d k) o
/-! ### the heap: a tree by the digits of the place -/
inductive Tr where
  | e
  | nd (o : Option DObj) (l r : Tr)
def trGet (t : Tr) (i : Nat) : Option DObj :=
  Tr.rec (motive := fun _ => Nat → Option DObj) (fun _ => none) (fun o _ _ gl gr i =>
    cnd (Nat.beq i 0) o (cnd (Nat.beq (Nat.mod i 2) 1) (gl (Nat.div i 2)) (gr (Nat.div (Nat.sub i 1) 2)))) t i
def Tr.lk (t : Tr) : Tr := Tr.casesOn t .e fun _ l _ => l
def Tr.rk (t : Tr) : Tr := Tr.casesOn t .e fun _ _ r => r
def Tr.val (t : Tr) : Option DObj := Tr.casesOn t none fun o _ _ => o
def trSet (fuel : Nat) (t : Tr) (i : Nat) (o : Option DObj) : Tr :=
  Nat.rec (motive := fun _ => Tr → Nat → Tr) (fun t _ => t) (fun _ ih t i =>
    cnd (Nat.beq i 0) (.nd o t.lk t.rk)
      (cnd (Nat.beq (Nat.mod i 2) 1) (.nd t.val (ih t.lk (Nat.div i 2)) t.rk) (.nd t.val t.lk (ih t.rk (Nat.div (Nat.sub i 1) 2))))) fuel t i
structure DH where
  n : Nat
  t : Tr
def DH.get (h : DH) (i : Nat) : Option DObj := trGet h.t i
def trFuel (i : Nat) : Nat := Nat.add (Nat.log2 (Nat.succ i)) 2
def DH.put (h : DH) (i : Nat) (o : DObj) : DH := ⟨h.n, trSet (trFuel i) h.t i (some o)⟩
def DH.new (h : DH) (o : DObj) : DH := ⟨Nat.succ h.n, trSet (trFuel h.n) h.t h.n (some o)⟩
/-! ### lists -/
def nilB {α : Type} (xs : List α) : Bool := List.casesOn xs true fun _ _ => false
def nth {α : Type} (xs : List α) (n : Nat) : Option α :=
  List.rec (motive := fun _ => Nat → Option α) (fun _ => none) (fun a _ ih n => Nat.rec (motive := fun _ => Option α) (some a) (fun m _ => ih m) n) xs n
def setAt {α : Type} (xs : List α) (n : Nat) (b : α) : List α :=
  List.rec (motive := fun _ => Nat → List α) (fun _ => []) (fun a r ih n => Nat.rec (motive := fun _ => List α) (b :: r) (fun m _ => a :: ih m) n) xs n
def lenN {α : Type} (xs : List α) : Nat := List.rec 0 (fun _ _ ih => Nat.succ ih) xs
def app {α : Type} (xs ys : List α) : List α := List.rec ys (fun a _ ih => a :: ih) xs
def mapL {α β : Type} (f : α → β) (xs : List α) : List β := List.rec [] (fun a _ ih => f a :: ih) xs
def revO {α : Type} (xs acc : List α) : List α := List.rec (motive := fun _ => List α → List α) (fun acc => acc) (fun a _ ih acc => ih (a :: acc)) xs acc
def dropN {α : Type} (n : Nat) (xs : List α) : List α := Nat.rec (motive := fun _ => List α → List α) (fun xs => xs) (fun _ ih xs => List.casesOn xs [] fun _ r => ih r) n xs
def takeN {α : Type} (n : Nat) (xs : List α) : List α := Nat.rec (motive := fun _ => List α → List α) (fun _ => []) (fun _ ih xs => List.casesOn xs [] fun a r => a :: ih r) n xs
def allL {α : Type} (p : α → Bool) (xs : List α) : Bool := List.rec true (fun a _ ih => cnd (p a) ih false) xs
def anyL {α : Type} (p : α → Bool) (xs : List α) : Bool := List.rec false (fun a _ ih => cnd (p a) true ih) xs
def repl {α : Type} (n : Nat) (xs : List α) : List α := Nat.rec [] (fun _ ih => app xs ih) n
def upTo (n : Nat) (p : Nat → Bool) : Bool := Nat.rec true (fun m ih => cnd (p m) ih false) n
/-! ### comparing plain data -/
def natsEq (xs ys : List Nat) : Bool := List.rec (motive := fun _ => List Nat → Bool) nilB (fun a _ ih ys => List.casesOn ys false fun b s => cnd (Nat.beq a b) (ih s) false) xs ys
def natsLt (xs ys : List Nat) : Bool := List.rec (motive := fun _ => List Nat → Bool) (fun ys => cnd (nilB ys) false true) (fun a _ ih ys => List.casesOn ys false fun b s => cnd (Nat.beq a b) (ih s) (Nat.ble (Nat.succ a) b)) xs ys
def intEq (a b : Int) : Bool := Int.casesOn a (fun m => Int.casesOn b (fun n => Nat.beq m n) (fun _ => false)) (fun m => Int.casesOn b (fun _ => false) (fun n => Nat.beq m n))
def intLt (a b : Int) : Bool := Int.casesOn a (fun m => Int.casesOn b (fun n => Nat.ble (Nat.succ m) n) (fun _ => false)) (fun m => Int.casesOn b (fun _ => true) (fun n => Nat.ble (Nat.succ n) m))
def tyEq : Ty → Ty → Bool
  | .int, .int | .bool, .bool | .str, .str | .list, .list | .tuple, .tuple | .dict, .dict | .none, .none => true
  | .own a, .own b => Nat.beq a b
  | .bexc a, .bexc b => Nat.beq a b
  | _, _ => false
/-- no, yes, not told -/
inductive T3 where | no | yes | un
def ofB (b : Bool) : T3 := cnd b .yes .no
def on3 {α : Type} (t : T3) (n y u : α) : α := T3.rec n y u t
/-- 0 None, 1 int or bool, 2 str, 3 tuple, 4 list or dict, 9 else -/
def kindOf (h : DH) (x : DV) : Nat := DV.casesOn x 0 (fun _ => 1) (fun _ => 1) (fun _ => 2) (fun _ => 3)
  (fun i => obL (obD 9 (h.get i) fun _ => 4) (h.get i) fun _ => 4) (fun _ _ => 9) (fun _ _ => 9) (fun _ => 9)
def unlike (h : DH) (x y : DV) : T3 := cnd (Nat.beq (kindOf h x) 9) .un (cnd (Nat.beq (kindOf h y) 9) .un (cnd (Nat.beq (kindOf h x) (kindOf h y)) .un .no))
def numOf (x : DV) : Option Int := DV.casesOn x none (fun b => some (cnd b 1 0)) (fun i => some i) (fun _ => none) (fun _ => none) (fun _ => none) (fun _ _ => none) (fun _ _ => none) (fun _ => none)
def eqI (h : DH) (x : DV) (a : Int) (y : DV) : T3 := onO (unlike h x y) (numOf y) fun b => ofB (intEq a b)
def eqS (h : DH) (x : DV) (a : List Nat) (y : DV) : T3 := onS (unlike h x y) y fun b => ofB (natsEq a b)
def eqT (h : DH) (ihs : List DV → List DV → T3) (x : DV) (a : List DV) (y : DV) : T3 := onT (unlike h x y) y fun b => ihs a b
def eqR (h : DH) (ihs : List DV → List DV → T3) (x : DV) (i : Nat) (y : DV) : T3 := onR (unlike h x y) y fun j => obL .un (h.get i) fun a => obL .un (h.get j) fun b => ihs a b
def eqN (h : DH) (y : DV) : T3 := DV.casesOn y .yes (fun _ => .no) (fun _ => .no) (fun _ => .no) (fun _ => .no) (fun i => unlike h .non y) (fun _ _ => .un) (fun _ _ => .un) (fun _ => .un)
def eqStep (h : DH) (ihs : List DV → List DV → T3) (x y : DV) : T3 := DV.casesOn x (eqN h y) (fun b => eqI h x (cnd b 1 0) y) (fun i => eqI h x i y) (fun a => eqS h x a y) (fun a => eqT h ihs x a y) (fun i => eqR h ihs x i y) (fun _ _ => .un) (fun _ _ => .un) (fun _ => .un)
def eqs (eq : DV → DV → T3) (xs ys : List DV) : T3 := List.rec (motive := fun _ => List DV → T3) (fun ys => ofB (nilB ys)) (fun a _ ih ys => List.casesOn ys .no fun b s => on3 (eq a b) .no (ih s) .un) xs ys
def sameLen (xs ys : List DV) : Bool := List.rec (motive := fun _ => List DV → Bool) nilB (fun _ _ ih ys => List.casesOn ys false fun _ s => ih s) xs ys
def eqD (h : DH) (fuel : Nat) : DV → DV → T3 :=
  Nat.rec (motive := fun _ => DV → DV → T3) (fun _ _ => .un) (fun _ ih => eqStep h (eqs ih)) fuel
def lts (eq lt : DV → DV → T3) (xs ys : List DV) : T3 := List.rec (motive := fun _ => List DV → T3) (fun ys => ofB (cnd (nilB ys) false true)) (fun a _ ih ys => List.casesOn ys .no fun b s => on3 (eq a b) (lt a b) (ih s) .un) xs ys
def ltR (h : DH) (ihs : List DV → List DV → T3) (i : Nat) (y : DV) : T3 := onR .un y fun j => obL .un (h.get i) fun a => obL .un (h.get j) fun b => ihs a b
def ltStep (h : DH) (ihs : List DV → List DV → T3) (x y : DV) : T3 := DV.casesOn x .un (fun _ => .un) (fun a => onI .un y fun b => ofB (intLt a b)) (fun a => onS .un y fun b => ofB (natsLt a b)) (fun a => onT .un y fun b => ihs a b) (fun i => ltR h ihs i y) (fun _ _ => .un) (fun _ _ => .un) (fun _ => .un)
def ltD (h : DH) (fuel : Nat) : DV → DV → T3 :=
  Nat.rec (motive := fun _ => DV → DV → T3) (fun _ _ => .un) (fun m ih => ltStep h (lts (eqD h m) ih)) fuel
/-- plain data all through: none, bools, ints, texts, tuples, lists -/
def dataStep (h : DH) (ih : DV → Bool) (x : DV) : Bool := DV.casesOn x true (fun _ => true) (fun _ => true) (fun s => allL (fun c => Nat.ble (Nat.succ c) 1114112) s) (fun xs => allL ih xs) (fun i => obL false (h.get i) (allL ih)) (fun _ _ => false) (fun _ _ => false) (fun _ => false)
def isData (h : DH) (fuel : Nat) : DV → Bool := Nat.rec (motive := fun _ => DV → Bool) (fun _ => false) (fun _ ih => dataStep h ih) fuel
def alikes (al : DV → DV → Bool) (xs ys : List DV) : Bool := List.rec (motive := fun _ => List DV → Bool) (fun _ => true) (fun a _ ih ys => List.casesOn ys true fun b s => cnd (al a b) (ih s) false) xs ys
/-- the two can be set in order, place by place -/
def alikeStep (h : DH) (ih : DV → DV → Bool) (x y : DV) : Bool := DV.casesOn x (DV.casesOn y true (fun _ => false) (fun _ => false) (fun _ => false) (fun _ => false) (fun _ => false) (fun _ _ => false) (fun _ _ => false) (fun _ => false))
  (fun _ => onB false y fun _ => true) (fun _ => onI false y fun _ => true) (fun _ => onS false y fun _ => true) (fun a => onT false y fun b => alikes ih a b)
  (fun i => onR false y fun j => obL false (h.get i) fun a => obL false (h.get j) fun b => alikes ih a b) (fun _ _ => false) (fun _ _ => false) (fun _ => false)
def alikeD (h : DH) (fuel : Nat) : DV → DV → Bool := Nat.rec (motive := fun _ => DV → DV → Bool) (fun _ _ => false) (fun _ ih => alikeStep h ih) fuel
def isNon (x : DV) : Bool := DV.casesOn x true (fun _ => false) (fun _ => false) (fun _ => false) (fun _ => false) (fun _ => false) (fun _ _ => false) (fun _ _ => false) (fun _ => false)
/-- data both, and such as can be set in order -/
def ordOk (h : DH) (fuel : Nat) (x y : DV) : Bool := cnd (isData h fuel x) (cnd (isData h fuel y) (cnd (isNon x) false (alikeD h fuel x y)) false) false
def twoData (h : DH) (fuel : Nat) (x y : DV) : Bool := cnd (isData h fuel x) (isData h fuel y) false
/-! ### texts of values -/
def digs (fuel : Nat) (n : Nat) (acc : List Nat) : List Nat :=
  Nat.rec (motive := fun _ => Nat → List Nat → List Nat) (fun _ acc => acc) (fun _ ih n acc => cnd (Nat.ble n 9) (Nat.add 48 n :: acc) (ih (Nat.div n 10) (Nat.add 48 (Nat.mod n 10) :: acc))) fuel n acc
def intText (i : Int) : List Nat := Int.casesOn i (fun n => digs 600 n []) (fun n => 45 :: digs 600 (Nat.succ n) [])
def plainCp (c : Nat) : Bool := cnd (Nat.ble 32 c) (cnd (Nat.ble c 126) (cnd (Nat.beq c 39) false (cnd (Nat.beq c 92) false true)) false) false
abbrev OT := Option (List Nat)
/-- the texts of items, with «, » between -/
def texts (tx : DV → OT) (xs : List DV) : OT := List.rec (some []) (fun a r ih => onO none (tx a) fun t => cnd (nilB r) (some t) (onO none ih fun u => some (app t (44 :: 32 :: u)))) xs
def tupText (tx : DV → OT) (xs : List DV) : OT := onO none (texts tx xs) fun t => some (40 :: app t (List.casesOn xs [41] fun _ r => cnd (nilB r) [44, 41] [41]))
def objText (tx : DV → OT) (o : Option DObj) : OT := obL none o fun xs => onO none (texts tx xs) fun t => some (91 :: app t [93])
def textStep (h : DH) (ih : DV → OT) (x : DV) : OT := DV.casesOn x (some [78, 111, 110, 101]) (fun b => some (cnd b [84, 114, 117, 101] [70, 97, 108, 115, 101])) (fun i => cnd (Nat.ble (Nat.log2 i.natAbs) 1900) (some (intText i)) none)
  (fun s => cnd (allL plainCp s) (some (39 :: app s [39])) none) (fun xs => tupText ih xs) (fun i => objText ih (h.get i)) (fun _ _ => none) (fun _ _ => none) (fun _ => none)
def textD (h : DH) (fuel : Nat) : DV → OT := Nat.rec (motive := fun _ => DV → OT) (fun _ => none) (fun _ ih => textStep h ih) fuel
/-! ### slices, places -/
def bound (n : Nat) (i : Int) : Nat := Int.casesOn i (fun k => cnd (Nat.ble k n) k n) (fun k => Nat.sub n (Nat.succ k))
def cutN (n : Nat) (xs : List DV) (lo hi : Option Int) : List DV := takeN (Nat.sub (onO n hi (bound n)) (onO 0 lo (bound n))) (dropN (onO 0 lo (bound n)) xs)
def cut (xs : List DV) (lo hi : Option Int) : List DV := cutN (lenN xs) xs lo hi
def ixOf (n : Nat) (i : Int) : Option Nat := Int.casesOn i (fun k => cnd (Nat.ble (Nat.succ k) n) (some k) none) (fun k => cnd (Nat.ble (Nat.succ k) n) (some (Nat.sub n (Nat.succ k))) none)
def ixIn (xs : List DV) (k : Int) : Option DV := onO none (ixOf (lenN xs) k) fun n => nth xs n
/-! ### sorting: pairs (key, item), stable; the list made so far falls -/
abbrev DP := DV × DV
def insD (lt : DV → DV → T3) (b : DP) (xs : List DP) : Option (List DP) := List.rec (some [b]) (fun a r ih => on3 (lt b.1 a.1) (some (b :: a :: r)) (onO none ih fun q => some (a :: q)) none) xs
def sortD (lt : DV → DV → T3) (xs : List DP) (acc : List DP) : Option (List DP) :=
  List.rec (motive := fun _ => List DP → Option (List DP)) (fun acc => some (revO acc [])) (fun x _ ih acc => onO none (insD lt x acc) ih) xs acc
abbrev Fr := List (Option DV)
abbrev eqF : Nat := 40
def seqOf (d : DV) (h : DH) : Option (List DV) := onT (onR none d fun i => obL none (h.get i) some) d some
/-- is, of None and bools -/
def isNo (x : DV) : T3 := DV.casesOn x .yes (fun _ => .no) (fun _ => .no) (fun _ => .no) (fun _ => .no) (fun _ => .no) (fun _ _ => .no) (fun _ _ => .un) (fun _ => .un)
def isBl (x : DV) (b : Bool) : T3 := onB .un x fun a => ofB (cnd a b (not b))
def isId (x y : DV) : T3 := DV.casesOn y (isNo x) (fun b => isBl x b) (fun _ => .un) (fun _ => .un) (fun _ => .un) (fun _ => .un) (fun _ _ => .un) (fun _ _ => .un) (fun _ => .un)
def memD (eq : DV → DV → T3) (x : DV) (xs : List DV) : T3 := List.rec .no (fun a _ ih => on3 (eq a x) ih .yes .un) xs
/-- keys: an int or a text; a tuple of such -/
def flatK (x : DV) : Bool := DV.casesOn x false (fun _ => false) (fun _ => true) (fun _ => true) (fun _ => false) (fun _ => false) (fun _ _ => false) (fun _ _ => false) (fun _ => false)
def tupK (x : DV) : Bool := onT false x (allL flatK)
def isTup (x : DV) : Bool := onT false x fun _ => true
def flatEq (x y : DV) : Bool := DV.casesOn x false (fun _ => false) (fun a => onI false y fun b => intEq a b) (fun a => onS false y fun b => natsEq a b) (fun _ => false) (fun _ => false) (fun _ _ => false) (fun _ _ => false) (fun _ => false)
def flatsEq (xs ys : List DV) : Bool := List.rec (motive := fun _ => List DV → Bool) nilB (fun a _ ih ys => List.casesOn ys false fun b s => cnd (flatEq a b) (ih s) false) xs ys
def keyEq (x y : DV) : Bool := onT (flatEq x y) x fun a => onT false y fun b => flatsEq a b
/-- the key is of the dict's kind (an empty one's is tuples) -/
def keyFit (x : DV) (kvs : List DP) : Bool := List.casesOn kvs (tupK x) fun p _ => cnd (isTup p.1) (tupK x) (flatK x)
def findV (x : DV) (kvs : List DP) : Option DV := List.rec none (fun a _ ih => cnd (keyEq a.1 x) (some a.2) ih) kvs
def look (x : DV) (kvs : List DP) : Option (Option DV) := cnd (keyFit x kvs) (some (findV x kvs)) none
def hasL (x y : DV) (xs : List DV) (h : DH) : T3 := cnd (isData h 39 x) (cnd (isData h eqF y) (memD (eqD h 39) x xs) .un) .un
def hasD (x y : DV) (h : DH) : T3 := onR .un y fun i => obL (obD .un (h.get i) fun kvs => onO .un (look x kvs) fun o => onO .no o fun _ => .yes) (h.get i) fun xs => hasL x y xs h
/-- what an operation gives: a value, the heap -/
abbrev RH := Option (DV × DH)
def t3 (neg : Bool) (t : T3) : Option DV := on3 t (some (.bl neg)) (some (.bl (not neg))) none
def newL (xs : List DV) (h : DH) : RH := some (.ref h.n, h.new (.lst xs))
def fits (n : Nat) : Bool := Nat.ble n 16777216
def both (xs ys : List DV) : Bool := fits (Nat.add (lenN xs) (lenN ys))
def addI (a : Int) (y : DV) (h : DH) : RH := onI none y fun b => some (.int (Int.add a b), h)
def addS (a : List Nat) (y : DV) (h : DH) : RH := onS none y fun b => cnd (fits (Nat.add (lenN a) (lenN b))) (some (.str (app a b), h)) none
def addT (a : List DV) (y : DV) (h : DH) : RH := onT none y fun b => cnd (both a b) (some (.tup (app a b), h)) none
def addL (i : Nat) (y : DV) (h : DH) : RH := onR none y fun j => obL none (h.get i) fun a => obL none (h.get j) fun b => cnd (both a b) (newL (app a b) h) none
def opAdd (x y : DV) (h : DH) : RH := DV.casesOn x none (fun _ => none) (fun a => addI a y h) (fun a => addS a y h) (fun a => addT a y h) (fun i => addL i y h) (fun _ _ => none) (fun _ _ => none) (fun _ => none)
def mulI (a n : Int) (h : DH) : RH := cnd (Nat.ble (Nat.add (Nat.log2 a.natAbs) (Nat.log2 n.natAbs)) 999999) (some (.int (Int.mul a n), h)) none
def mulT (a : List DV) (n : Int) (h : DH) : RH := cnd (Nat.ble 2 n.toNat) (cnd (Nat.ble n.toNat 1000) (cnd (Nat.ble (lenN a) 1000) (cnd (nilB a) none (some (.tup (repl n.toNat a), h))) none) none) none
def mulL (i : Nat) (n : Int) (h : DH) : RH := obL none (h.get i) fun a => cnd (Nat.ble n.natAbs 1000000) (cnd (fits (Nat.mul (lenN a) n.toNat)) (newL (repl n.toNat a) h) none) none
def opMul (x y : DV) (h : DH) : RH := onI none y fun n => DV.casesOn x none (fun _ => none) (fun a => mulI a n h) (fun _ => none) (fun a => mulT a n h) (fun i => mulL i n h) (fun _ _ => none) (fun _ _ => none) (fun _ => none)
def opInt (f : Int → Int → Option DV) (x y : DV) : Option DV := onI none x fun a => onI none y fun b => f a b
def subI (a b : Int) : Option DV := some (.int (Int.sub a b))
def fdivI (a b : Int) : Option DV := cnd (intLt 0 b) (cnd (Nat.ble (Nat.log2 b.natAbs) 8999) (some (.int (Int.ediv a b))) none) none
def modI (a b : Int) : Option DV := cnd (intLt 0 b) (some (.int (Int.emod a b))) none
def powI (a b : Int) : Option DV := cnd (intLt b 0) none (cnd (Nat.ble b.natAbs 1000000) (cnd (Nat.ble a.natAbs 18446744073709551615) (some (.int (Int.pow a b.toNat))) none) none)
def getIx (x i : DV) (h : DH) : Option DV := onT (onR none x fun a => obL (obD none (h.get a) fun kvs => onO none (look i kvs) fun o => o) (h.get a) fun xs => onI none i fun k => ixIn xs k) x fun xs => onI none i fun k => ixIn xs k
def slice (x : DV) (a b : Option Int) (h : DH) : RH := onT (onR none x fun i => obL none (h.get i) fun xs => newL (cut xs a b) h) x fun xs => some (.tup (cut xs a b), h)
def revD (x : DV) (h : DH) : RH := onR none x fun i => obL none (h.get i) fun xs => newL (revO xs []) h
inductive PArg where
  | at_ (i : Nat) | dv (d : DV)
def pick (pm : List PArg) (vs : List DV) : Option (List DV) := List.rec (some []) (fun p _ ih => onO none (PArg.casesOn p (fun i => nth vs i) some) fun d => onO none ih fun q => some (d :: q)) pm
def boolAll (xs : List DV) : Option Bool := List.rec (some true) (fun a _ ih => onB none a fun b => onO none ih fun c => some (cnd b c false)) xs
def boolAny (xs : List DV) : Option Bool := List.rec (some false) (fun a _ ih => onB none a fun b => onO none ih fun c => some (cnd b true c)) xs
def sumI (xs : List DV) (a : Int) : Option Int := List.rec (motive := fun _ => Int → Option Int) some (fun x _ ih a => onI none x fun b => ih (Int.add a b)) xs a
def maxI (xs : List DV) (a : Int) : Option Int := List.rec (motive := fun _ => Int → Option Int) some (fun x _ ih a => onI none x fun b => ih (cnd (intLt a b) b a)) xs a
def minI (xs : List DV) (a : Int) : Option Int := List.rec (motive := fun _ => Int → Option Int) some (fun x _ ih a => onI none x fun b => ih (cnd (intLt b a) b a)) xs a
def rangeL (fuel : Nat) (lo : Int) : List DV := Nat.rec (motive := fun _ => Int → List DV) (fun _ => []) (fun _ ih lo => .int lo :: ih (Int.add lo 1)) fuel lo
def zipT (xs ys : List DV) : List DV := List.rec (motive := fun _ => List DV → List DV) (fun _ => []) (fun a _ ih ys => List.casesOn ys [] fun b s => .tup [a, b] :: ih s) xs ys
def enumT (xs : List DV) (n : Nat) : List DV := List.rec (motive := fun _ => Nat → List DV) (fun _ => []) (fun a _ ih n => .tup [.int (.ofNat n), a] :: ih (Nat.succ n)) xs n
def hasV (k : DV) (kvs : List DP) : Bool := anyL (fun a => keyEq a.1 k) kvs
def putV (k v : DV) (kvs : List DP) : List DP := cnd (hasV k kvs) (mapL (fun a => cnd (keyEq a.1 k) (a.1, v) a) kvs) (app kvs [(k, v)])
def delV (k : DV) (kvs : List DP) : List DP := List.rec [] (fun a _ ih => cnd (keyEq a.1 k) ih (a :: ih)) kvs
def store (k v : DV) (kvs : List DP) : Option (List DP) := cnd (keyFit k kvs) (cnd (fits (Nat.succ (lenN kvs))) (some (putV k v kvs)) none) none
def putAll (ps : List DP) (acc : List DP) : Option (List DP) := List.rec (motive := fun _ => List DP → Option (List DP)) some (fun a _ ih acc => onO none (store a.1 a.2 acc) ih) ps acc
def pairOf (x : DV) : Option DP := onT none x fun xs => List.casesOn xs none fun a r => List.casesOn r none fun b s => cnd (nilB s) (some (a, b)) none
def pairsOf (xs : List DV) : Option (List DP) := List.rec (some []) (fun a _ ih => onO none (pairOf a) fun p => onO none ih fun q => some (p :: q)) xs
def dictFrom (xs : List DV) : Option (List DP) := onO none (pairsOf xs) fun ps => putAll ps []
def dictOf (x : DV) (h : DH) : Option (List DP) := onT (onR none x fun i => obL (obD none (h.get i) some) (h.get i) fun xs => dictFrom xs) x fun xs => dictFrom xs
/-! ### built-ins -/
def lenD (x : DV) (h : DH) : Option Nat := DV.casesOn x none (fun _ => none) (fun _ => none) (fun s => cnd (fits (lenN s)) (some (lenN s)) none) (fun xs => some (lenN xs)) (fun i => obL (obD none (h.get i) fun kvs => some (lenN kvs)) (h.get i) fun xs => some (lenN xs)) (fun _ _ => none) (fun _ _ => none) (fun _ => none)
def fstP (p : DP) : DV := p.1
def sndP (p : DP) : DV := p.2
def pairT (p : DP) : DV := .tup [p.1, p.2]
/-- a whole iterable as items -/
def itemsOf (x : DV) (h : DH) : Option (List DV) := onT (onR none x fun i => obL (obD none (h.get i) fun kvs => some (mapL fstP kvs)) (h.get i) some) x some
abbrev Bi := List DV → DH → RH
/-- a list's items -/
def lstOf (d : DV) (h : DH) : Option (List DV) := onR none d fun i => obL none (h.get i) some
def lh (o : Option (List DV)) (h : DH) : RH := onO none o fun xs => newL xs h
def on1 (f : DV → DH → RH) : Bi := fun as h => List.casesOn as none fun x r => cnd (nilB r) (f x h) none
def on2 (f : DV → DV → DH → RH) : Bi := fun as h => List.casesOn as none fun x r => List.casesOn r none fun y s => cnd (nilB s) (f x y h) none
def intD (o : Option Int) (h : DH) : RH := onO none o fun i => some (.int i, h)
def boolD (o : Option Bool) (h : DH) : RH := onO none o fun b => some (.bl b, h)
def bLen : Bi := on1 fun x h => onO none (lenD x h) fun n => some (.int (.ofNat n), h)
def bRange : Bi := fun as h => List.casesOn as none fun x r => cnd (nilB r) (onI none x fun n => newL (rangeL n.toNat 0) h) (on1 (fun y h => onI none x fun a => onI none y fun n => newL (rangeL (Int.sub n a).toNat a) h) r h)
def dupP (x : DV) : DP := (x, x)
def sortL (h : DH) (xs : List DV) : Option (List DV) := onO none (sortD (ltD h eqF) (mapL dupP xs) []) fun ys => some (mapL sndP ys)
def bSorted : Bi := on1 fun x h => onO none (itemsOf x h) fun xs => lh (sortL h xs) h
/-- sorted, a list of ints -/
def isInt (x : DV) : Bool := onI false x fun _ => true
def insI (b : Int) (xs : List Int) : List Int := List.rec [b] (fun a r ih => cnd (intLt b a) (b :: a :: r) (a :: ih)) xs
def intsOf (xs : List DV) : Option (List Int) := List.rec (some []) (fun a _ ih => onI none a fun i => onO none ih fun q => some (insI i q)) xs
def intV (i : Int) : DV := .int i
def bSortI : Bi := on1 fun x h => onO none (lstOf x h) fun xs => onO none (intsOf xs) fun ns => newL (mapL intV ns) h
def bAll : Bi := on1 fun x h => onO none (lstOf x h) fun xs => boolD (boolAll xs) h
def bAny : Bi := on1 fun x h => onO none (lstOf x h) fun xs => boolD (boolAny xs) h
def bList : Bi := on1 fun x h => lh (seqOf x h) h
def bTuple : Bi := on1 fun x h => onO none (seqOf x h) fun xs => some (.tup xs, h)
def bMax : Bi := fun as h => List.casesOn as none fun x r => cnd (nilB r) (onO none (lstOf x h) fun xs => List.casesOn xs none fun a s => onI none a fun a => intD (maxI s a) h) (on1 (fun y h => onI none x fun a => onI none y fun b => some (.int (cnd (intLt a b) b a), h)) r h)
def bMin : Bi := fun as h => List.casesOn as none fun x r => cnd (nilB r) (onO none (lstOf x h) fun xs => List.casesOn xs none fun a s => onI none a fun a => intD (minI s a) h) (on1 (fun y h => onI none x fun a => onI none y fun b => some (.int (cnd (intLt b a) b a), h)) r h)
def bInt : Bi := on1 fun x h => onI none x fun a => some (.int a, h)
/-- the text of a value; an empty dict by itself, too -/
def textV (h : DH) (x : DV) : OT := onR (textD h eqF x) x fun i => obD (textD h eqF x) (h.get i) fun kvs => cnd (nilB kvs) (some [123, 125]) none
def bRepr : Bi := on1 fun x h => onO none (textV h x) fun t => cnd (fits (lenN t)) (some (.str t, h)) none
def bZip : Bi := on2 fun x y h => onO none (seqOf x h) fun a => onO none (seqOf y h) fun b => newL (zipT a b) h
def bDict : Bi := on1 fun x h => onO none (dictOf x h) fun kvs => some (.ref h.n, h.new (.dic kvs))
def bSum : Bi := on1 fun x h => onO none (lstOf x h) fun xs => intD (sumI xs 0) h
def bAbs : Bi := on1 fun x h => onI none x fun a => some (.int (.ofNat a.natAbs), h)
def bDivmod : Bi := on2 fun x y h => onI none x fun a => onI none y fun b => cnd (intLt 0 b) (cnd (Nat.ble (Nat.log2 b.natAbs) 8999) (some (.tup [.int (Int.ediv a b), .int (Int.emod a b)], h)) none) none
def bEnum : Bi := on1 fun x h => onO none (seqOf x h) fun xs => newL (enumT xs 0) h
/-! ### methods -/
def idxD (eq : DV → DV → T3) (x : DV) (xs : List DV) (n : Nat) : Option Nat := List.rec (motive := fun _ => Nat → Option Nat) (fun _ => none) (fun a _ ih n => on3 (eq a x) (ih (Nat.succ n)) (some n) none) xs n
abbrev Me := DV → List DV → DH → RH
def arg0 {α : Type} (d : α) (as : List DV) (k : α) : α := cnd (nilB as) k d
def arg1 {α : Type} (d : α) (as : List DV) (k : DV → α) : α := List.casesOn as d fun x r => cnd (nilB r) (k x) d
def onLst (o : DV) (h : DH) (f : Nat → List DV → RH) : RH := onR none o fun i => obL none (h.get i) fun xs => f i xs
def onDic (o : DV) (h : DH) (f : Nat → List DP → RH) : RH := onR none o fun i => obD none (h.get i) fun kvs => f i kvs
def mAppend : Me := fun o as h => onLst o h fun i xs => arg1 none as fun x => cnd (fits (Nat.succ (lenN xs))) (some (.non, h.put i (.lst (app xs [x])))) none
def mExtend : Me := fun o as h => onLst o h fun i xs => arg1 none as fun x => onO none (lstOf x h) fun ys => cnd (both xs ys) (some (.non, h.put i (.lst (app xs ys)))) none
def mIndex : Me := fun o as h => onLst o h fun i xs => arg1 none as fun x => cnd (isData h eqF x) (cnd (isData h eqF o) (onO none (idxD (eqD h eqF) x xs 0) fun n => some (.int (.ofNat n), h)) none) none
def popAt (i : Nat) (xs : List DV) (h : DH) (n : Nat) : RH := onO none (nth xs n) fun d => some (d, h.put i (.lst (app (takeN n xs) (dropN (Nat.succ n) xs))))
def small62 (k : Int) : Bool := Nat.ble (Nat.log2 k.natAbs) 61
def popL (i : Nat) (xs : List DV) (as : List DV) (h : DH) : RH := List.casesOn as (onO none (ixOf (lenN xs) (.negSucc 0)) fun n => popAt i xs h n) fun y r => arg0 none r (onI none y fun k => cnd (small62 k) (onO none (ixOf (lenN xs) k) fun n => popAt i xs h n) none)
def popD (i : Nat) (kvs : List DP) (as : List DV) (h : DH) : RH := arg1 none as fun k => cnd (tupK k) (cnd (keyFit k kvs) (onO none (findV k kvs) fun v => some (v, h.put i (.dic (delV k kvs)))) none) none
def mPopL : Me := fun o as h => onLst o h fun i xs => popL i xs as h
def mPopD : Me := fun o as h => onDic o h fun i kvs => popD i kvs as h
def getD (k d : DV) (kvs : List DP) (h : DH) : RH := onO none (look k kvs) fun o => some (onO d o fun v => v, h)
def mGet : Me := fun o as h => onDic o h fun i kvs => List.casesOn as none fun k r => List.casesOn r (getD k .non kvs h) fun d s => arg0 none s (getD k d kvs h)
def mItems : Me := fun o as h => onDic o h fun i kvs => arg0 none as (newL (mapL pairT kvs) h)
def mUpdate : Me := fun o as h => onDic o h fun i kvs => arg1 none as fun x => onR none x fun j => obD none (h.get j) fun more => onO none (putAll more kvs) fun q => some (.non, h.put i (.dic q))
def setIx (o i v : DV) (h : DH) : Option DH := onR none o fun a => obL (obD none (h.get a) fun kvs => onO none (store i v kvs) fun q => some (h.put a (.dic q))) (h.get a) fun xs => onI none i fun k => onO none (ixOf (lenN xs) k) fun n => some (h.put a (.lst (setAt xs n v)))
def tyOf (x : DV) (h : DH) : Option Ty := DV.casesOn x (some .none) (fun _ => some .bool) (fun _ => some .int) (fun _ => some .str) (fun _ => some .tuple) (fun i => obL (obD none (h.get i) fun _ => some .dict) (h.get i) fun _ => some .list) (fun _ _ => none) (fun c _ => some (.own c)) (fun _ => none)
/-! ### the ways on -/
abbrev KX := Nat → List DV → DH → Bool
abbrev KV := DV → DH → Bool
abbrev KVs := List DV → DH → Bool
abbrev KN := Fr → DH → Bool
abbrev KE := Nat → List DV → Fr → DH → Bool
abbrev Ex := Fr → DH → KX → KV → Bool
abbrev Exs := Fr → DH → KX → KVs → Bool
abbrev Tx := Fr → DH → KX → (Bool → DH → Bool) → Bool
abbrev Sx := Fr → DH → KN → KV → KE → KN → KN → Bool
abbrev Call := Nat → List DV → DH → KX → KV → Bool
def ko (o : Option DV) (h : DH) (k : KV) : Bool := Option.rec false (fun d => k d h) o
def kh (o : RH) (k : KV) : Bool := Option.rec false (fun p => Prod.rec k p) o
def slotK (fr : Fr) (i : Nat) (k : DV → Bool) : Bool := onO false (nth fr i) fun o => onO false o k
/-! ### expressions -/
def cVar (i : Nat) : Ex := fun fr h _ k => slotK fr i fun d => k d h
/-- how many numbers the law's script has -/
def cLenS (i : Nat) : Ex := fun fr h _ k => slotK fr i fun d => onScr false d fun n => k (.int (.ofNat n)) h
def cCell (i : Nat) : Ex := fun fr h _ k => slotK fr i fun d => onR false d fun c => obC false (h.get c) fun o => onO false o fun d => k d h
def cCst (d : DV) : Ex := fun _ h _ k => k d h
def cNil : Exs := fun _ h _ k => k [] h
def cCons (e : Ex) (es : Exs) : Exs := fun fr h kx k => e fr h kx fun d h => es fr h kx fun ds h => k (d :: ds) h
/-- the arguments one after another: the written ones, the keywords' -/
def cApp (t u : Exs) : Exs := fun fr h kx k => t fr h kx fun ds h => u fr h kx fun es h => k (app ds es) h
def cTup (es : Exs) : Ex := fun fr h kx k => es fr h kx fun ds h => k (.tup ds) h
def cLst (es : Exs) : Ex := fun fr h kx k => es fr h kx fun ds h => k (.ref h.n) (h.new (.lst ds))
def cBin (f : DV → DV → DH → RH) (a b : Ex) : Ex := fun fr h kx k => a fr h kx fun x h => b fr h kx fun y h => kh (f x y h) k
def cBin0 (f : DV → DV → Option DV) (a b : Ex) : Ex := fun fr h kx k => a fr h kx fun x h => b fr h kx fun y h => ko (f x y) h k
def cCmp (neg : Bool) (f : DV → DV → DH → T3) (a b : Ex) : Ex := fun fr h kx k => a fr h kx fun x h => b fr h kx fun y h => ko (t3 neg (f x y h)) h k
def eqC (x y : DV) (h : DH) : T3 := cnd (twoData h eqF x y) (eqD h eqF x y) .un
def not3 (t : T3) : T3 := on3 t .yes .no .un
def ltC (x y : DV) (h : DH) : T3 := cnd (ordOk h eqF x y) (ltD h eqF x y) .un
def gtC (x y : DV) (h : DH) : T3 := cnd (ordOk h eqF x y) (ltD h eqF y x) .un
def leC (x y : DV) (h : DH) : T3 := cnd (ordOk h eqF x y) (not3 (ltD h eqF y x)) .un
def geC (x y : DV) (h : DH) : T3 := cnd (ordOk h eqF x y) (not3 (ltD h eqF x y)) .un
/-- a text in a written tuple of texts -/
def memS (s : List Nat) (ks : List DV) : Bool := anyL (fun k => onS false k (natsEq s)) ks
def cInT (neg : Bool) (ks : List DV) (a : Ex) : Ex := fun fr h kx k => a fr h kx fun x h => onS false x fun s => k (.bl (cnd (memS s ks) (not neg) neg)) h
def isC (x y : DV) (_ : DH) : T3 := isId x y
def cNeg (a : Ex) : Ex := fun fr h kx k => a fr h kx fun x h => onI false x fun i => k (.int (Int.neg i)) h
/-- a test: the value is a bool -/
def cTest (a : Ex) : Tx := fun fr h kx k => a fr h kx fun x h => onB false x fun b => k b h
def tAnd (a b : Tx) : Tx := fun fr h kx k => a fr h kx fun c h => cnd c (b fr h kx k) (k false h)
def tOr (a b : Tx) : Tx := fun fr h kx k => a fr h kx fun c h => cnd c (k true h) (b fr h kx k)
def tNot (a : Tx) : Tx := fun fr h kx k => a fr h kx fun c h => k (cnd c false true) h
def cAnd (a b : Ex) : Ex := fun fr h kx k => a fr h kx fun x h => onB false x fun c => cnd c (b fr h kx k) (k (.bl false) h)
def cOr (a b : Ex) : Ex := fun fr h kx k => a fr h kx fun x h => onB false x fun c => cnd c (k (.bl true) h) (b fr h kx k)
def cNot (a : Ex) : Ex := fun fr h kx k => a fr h kx fun x h => onB false x fun c => k (.bl (cnd c false true)) h
def cIte (t : Tx) (a b : Ex) : Ex := fun fr h kx k => t fr h kx fun c h => cnd c (a fr h kx k) (b fr h kx k)
def cChain (n1 n2 : Bool) (f g : DV → DV → DH → T3) (a b c : Ex) : Ex := fun fr h kx k => a fr h kx fun x h => b fr h kx fun y h => ko (t3 n1 (f x y h)) h fun t h => onB false t fun t => cnd t (c fr h kx fun z h => ko (t3 n2 (g y z h)) h k) (k (.bl false) h)
def cIx (a i : Ex) : Ex := fun fr h kx k => a fr h kx fun x h => i fr h kx fun y h => ko (getIx x y h) h k
/-- a slice's bound: left out, or an int -/
abbrev Ox := Fr → DH → KX → (Option Int → DH → Bool) → Bool
def oNo : Ox := fun _ h _ k => k none h
def oEx (a : Ex) : Ox := fun fr h kx k => a fr h kx fun d h => onI false d fun i => k (some i) h
def cSl (a : Ex) (lo hi : Ox) : Ex := fun fr h kx k => a fr h kx fun x h => lo fr h kx fun l h => hi fr h kx fun u h => kh (slice x l u h) k
def cRev (a : Ex) : Ex := fun fr h kx k => a fr h kx fun x h => kh (revD x h) k
def cBc (f : Bi) (es : Exs) : Ex := fun fr h kx k => es fr h kx fun ds h => kh (f ds h) k
/-- a method: of a list, of a dict, of either -/
def cML (f : Me) (o : Ex) (es : Exs) : Ex := fun fr h kx k => o fr h kx fun x h => onR false x fun i => obL false (h.get i) fun _ => es fr h kx fun ds h => kh (f x ds h) k
def cMD (f : Me) (o : Ex) (es : Exs) : Ex := fun fr h kx k => o fr h kx fun x h => onR false x fun i => obD false (h.get i) fun _ => es fr h kx fun ds h => kh (f x ds h) k
def cMt (fL fD : Me) (o : Ex) (es : Exs) : Ex := fun fr h kx k => o fr h kx fun x h => onR false x fun i => obL (obD false (h.get i) fun _ => es fr h kx fun ds h => kh (fD x ds h) k) (h.get i) fun _ => es fr h kx fun ds h => kh (fL x ds h) k
def cCall (call : Call) (f : Nat) (pm : List PArg) (es : Exs) : Ex := fun fr h kx k => es fr h kx fun ds h => onO false (pick pm ds) fun as => call f as h kx k
def cCallv (call : Call) (g : Ex) (es : Exs) : Ex := fun fr h kx k => g fr h kx fun x h => es fr h kx fun ds h => onF false x fun f caps => call f (app ds caps) h kx k
def capsOf (fr : Fr) (is : List Nat) : Option (List DV) := List.rec (some []) (fun i _ ih => onO none (nth fr i) fun o => onO none o fun d => onO none ih fun q => some (d :: q)) is
def cLam (f : Nat) (caps : List Nat) : Ex := fun fr h _ k => onO false (capsOf fr caps) fun q => k (.fn f q) h
def cIsin (sub : Ty → Bool) (a : Ex) : Ex := fun fr h kx k => a fr h kx fun x h => onO false (tyOf x h) fun t => k (.bl (sub t)) h
def fldOf (f : Nat) (ns : List Nat) (ds : List DV) : Option DV := List.rec (motive := fun _ => List DV → Option DV) (fun _ => none) (fun n _ ih ds => List.casesOn ds none fun d r => cnd (Nat.beq n f) (some d) (ih r)) ns ds
def cAttr (fld : Nat → List Nat) (f : Nat) (a : Ex) : Ex := fun fr h kx k => a fr h kx fun x h => onX false x fun c fs => ko (fldOf f (fld c) fs) h k
def cMkx (c : Nat) (es : Exs) : Ex := fun fr h kx k => es fr h kx fun ds h => k (.exn c ds) h
/-- a dict display: key, value, key, value .. -/
def dicOf (h : DH) (ds : List DV) : Option (List DP) := onO none (List.rec (motive := fun _ => Option (Option DV × List DP)) (some (none, [])) (fun d _ ih => onO none ih fun q => onO (some (some d, q.2)) q.1 fun v => some (none, (d, v) :: q.2)) ds) fun q => onO (putAll q.2 []) q.1 fun _ => none
/-- a dict display whose keys are unlike constants, ints and texts -/
def zipK (ks ds : List DV) : List DP := List.rec (motive := fun _ => List DV → List DP) (fun _ => []) (fun k _ ih ds => List.casesOn ds [] fun d r => (k, d) :: ih r) ks ds
def cDicK (ks : List DV) (es : Exs) : Ex := fun fr h kx k => es fr h kx fun ds h => k (.ref h.n) (h.new (.dic (zipK ks ds)))
def cDic (es : Exs) : Ex := fun fr h kx k => es fr h kx fun ds h => onO false (dicOf h ds) fun kvs => k (.ref h.n) (h.new (.dic kvs))
/-! ### key functions -/
def keyed (call : Call) (kx : KX) (f : Nat) (caps : List DV) (k : List DP → DH → Bool) (xs : List DV) (acc : List DP) (h : DH) : Bool :=
  List.rec (motive := fun _ => List DP → DH → Bool) (fun acc h => k (revO acc []) h) (fun x _ ih acc h => call f (x :: caps) h kx fun d h => ih ((d, x) :: acc) h) xs acc h
def leastBy (h : DH) (ps : List DP) (b : DP) : Option DV := List.rec (motive := fun _ => DP → Option DV) (fun b => some b.2) (fun a _ ih b => on3 (ltD h eqF a.1 b.1) (ih b) (ih a) none) ps b
def mostBy (h : DH) (ps : List DP) (b : DP) : Option DV := List.rec (motive := fun _ => DP → Option DV) (fun b => some b.2) (fun a _ ih b => on3 (ltD h eqF b.1 a.1) (ih b) (ih a) none) ps b
def cMaxBy (call : Call) (key a : Ex) : Ex := fun fr h kx k => a fr h kx fun x h => key fr h kx fun g h => onF false g fun f caps => onO false (seqOf x h) fun xs => keyed call kx f caps (fun ps h => List.casesOn ps false fun p r => ko (mostBy h r p) h k) xs [] h
def cMinBy (call : Call) (key a : Ex) : Ex := fun fr h kx k => a fr h kx fun x h => key fr h kx fun g h => onF false g fun f caps => onO false (seqOf x h) fun xs => keyed call kx f caps (fun ps h => List.casesOn ps false fun p r => ko (leastBy h r p) h k) xs [] h
def cSortBy (call : Call) (key a : Ex) : Ex := fun fr h kx k => a fr h kx fun x h => key fr h kx fun g h => onF false g fun f caps => onO false (seqOf x h) fun xs => keyed call kx f caps (fun ps h => onO false (sortD (ltD h eqF) ps []) fun ys => kh (newL (mapL sndP ys) h) k) xs [] h
/-! ### what is walked -/
inductive It where
  | rng (lo : Int) (n : Nat) | sq (d : DV) | enm (d : DV) | zp (a b : DV) | keys (i n : Nat) | items (i n : Nat)
/-- none: not told; some none: at the end; else the item -/
abbrev OI := Option (Option DV)
def nxRng (lo : Int) (n i : Nat) : OI := some (cnd (Nat.ble (Nat.succ i) n) (some (.int (Int.add lo (.ofNat i)))) none)
def nxSq (d : DV) (i : Nat) (h : DH) : OI := onO none (seqOf d h) fun xs => some (nth xs i)
def nxEnm (d : DV) (i : Nat) (h : DH) : OI := onO none (seqOf d h) fun xs => some (onO none (nth xs i) fun x => some (.tup [.int (.ofNat i), x]))
def nxZp (a b : DV) (i : Nat) (h : DH) : OI := onO none (seqOf a h) fun xs => onO none (seqOf b h) fun ys => some (onO none (nth xs i) fun x => onO none (nth ys i) fun y => some (.tup [x, y]))
/-- of a dict, as long as it is as large as at first -/
def nxDic (f : DP → DV) (c n i : Nat) (h : DH) : OI := obD none (h.get c) fun kvs => cnd (Nat.beq (lenN kvs) n) (some (onO none (nth kvs i) fun p => some (f p))) none
/-- of a dict with keys of any depth -/
def nxKeyN (c n i : Nat) (h : DH) : OI := obN none (h.get c) fun kvs => cnd (Nat.beq (lenN kvs) n) (some (onO none (nth kvs i) fun p => some p.1)) none
def It.nxt (j : It) (i : Nat) (h : DH) : OI := It.casesOn j (fun lo n => nxRng lo n i) (fun d => nxSq d i h) (fun d => nxEnm d i h) (fun a b => nxZp a b i h) (fun c n => nxKeyN c n i h) (fun c n => nxDic pairT c n i h)
abbrev KI := It → DH → Bool
abbrev Ix := Fr → DH → KX → KI → Bool
def iSeq (a : Ex) : Ix := fun fr h kx k => a fr h kx fun x h => onO false (seqOf x h) fun _ => k (.sq x) h
def iRng (es : Exs) : Ix := fun fr h kx k => es fr h kx fun ds h => List.casesOn ds false fun x r => cnd (nilB r) (onI false x fun n => cnd (small62 n) (k (.rng 0 n.toNat) h) false) (arg1 false r fun y => onI false x fun a => onI false y fun n => cnd (small62 a) (cnd (small62 n) (k (.rng a (Int.sub n a).toNat) h) false) false)
def iEnum (es : Exs) : Ix := fun fr h kx k => es fr h kx fun ds h => arg1 false ds fun x => onO false (seqOf x h) fun _ => k (.enm x) h
def twoSq (x y : DV) (h : DH) : Bool := onT (onR false x fun i => obL false (h.get i) fun _ => onR false y fun j => obL false (h.get j) fun _ => true) x fun _ => onT false y fun _ => true
def iZip (es : Exs) : Ix := fun fr h kx k => es fr h kx fun ds h => List.casesOn ds false fun x r => arg1 false r fun y => cnd (twoSq x y h) (k (.zp x y) h) false
def iItems (a : Ex) : Ix := fun fr h kx k => a fr h kx fun x h => onR false x fun i => obD false (h.get i) fun kvs => k (.items i (lenN kvs)) h
/-! ### targets -/
abbrev Gx := DV → Fr → DH → KN → Bool
abbrev Gxs := List DV → Fr → DH → KN → Bool
def gNm (i : Nat) : Gx := fun d fr h k => k (setAt fr i (some d)) h
def gCell (i : Nat) : Gx := fun d fr h k => slotK fr i fun c => onR false c fun c => k fr (h.put c (.cell (some d)))
def gNil : Gxs := fun ds fr h k => cnd (nilB ds) (k fr h) false
def gCons (g : Gx) (gs : Gxs) : Gxs := fun ds fr h k => List.casesOn ds false fun d r => g d fr h fun fr h => gs r fr h k
def gTup (n : Nat) (gs : Gxs) : Gx := fun d fr h k => onT false d fun xs => cnd (Nat.beq (lenN xs) n) (gs xs fr h k) false
def noK (_ : Nat) (_ : List DV) (_ : DH) : Bool := false
def gIx (o i : Ex) : Gx := fun d fr h k => o fr h noK fun x h => i fr h noK fun y h => onO false (setIx x y d h) fun h => k fr h
/-! ### comprehensions -/
abbrev lcF : Nat := 100000
/-- a turn: not told, at the end, an item -/
def turn (o : OI) (z : Bool) (k : DV → Bool) : Bool := onO false o fun o => onO z o k
def lcLoop (elt : Ex) (g : Gx) (j : It) (fr0 : Fr) (k : List DV → DH → Bool) (fuel : Nat) : Nat → DH → List DV → Bool :=
  Nat.rec (motive := fun _ => Nat → DH → List DV → Bool) (fun _ _ _ => false) (fun _ loop i h acc => turn (j.nxt i h) (k acc h) fun x => g x fr0 h fun fr h => elt fr h noK fun d h => loop (Nat.succ i) h (d :: acc)) fuel
def lcLoopC (elt : Ex) (g : Gx) (j : It) (c : Tx) (fr0 : Fr) (k : List DV → DH → Bool) (fuel : Nat) : Nat → DH → List DV → Bool :=
  Nat.rec (motive := fun _ => Nat → DH → List DV → Bool) (fun _ _ _ => false) (fun _ loop i h acc => turn (j.nxt i h) (k acc h) fun x => g x fr0 h fun fr h => c fr h noK fun b h => cnd b (elt fr h noK fun d h => loop (Nat.succ i) h (d :: acc)) (loop (Nat.succ i) h acc)) fuel
def lcEnd (k : KV) (ds : List DV) (h : DH) : Bool := k (.ref h.n) (h.new (.lst (revO ds [])))
/-- the names' slots that are hidden within, or are its own, emptied -/
def bDrop (drop : List Nat) (fr : Fr) : Fr := List.rec (motive := fun _ => Fr) fr (fun i _ ih => setAt ih i none) drop
def cLc (drop : List Nat) (elt : Ex) (g : Gx) (it : Ix) : Ex := fun fr h kx k => it fr h kx fun j h => lcLoop elt g j (bDrop drop fr) (lcEnd k) lcF 0 h []
def cLcC (drop : List Nat) (elt : Ex) (g : Gx) (it : Ix) (c : Tx) : Ex := fun fr h kx k => it fr h kx fun j h => lcLoopC elt g j c (bDrop drop fr) (lcEnd k) lcF 0 h []
/-! ### statements -/
def noE (_ : Nat) (_ : List DV) (_ : Fr) (_ : DH) : Bool := false
def noN (_ : Fr) (_ : DH) : Bool := false
def kxOf (ex : KE) (fr : Fr) : KX := fun c fs h => ex c fs fr h
def sNil : Sx := fun fr h nx _ _ _ _ => nx fr h
def sSeq (a b : Sx) : Sx := fun fr h nx rt ex bk ct => a fr h (fun fr h => b fr h nx rt ex bk ct) rt ex bk ct
def sPass : Sx := fun fr h nx _ _ _ _ => nx fr h
def sBrk : Sx := fun fr h _ _ _ bk _ => bk fr h
def sCont : Sx := fun fr h _ _ _ _ ct => ct fr h
def sExpr (e : Ex) : Sx := fun fr h nx _ ex _ _ => e fr h (kxOf ex fr) fun _ h => nx fr h
def sRet (e : Ex) : Sx := fun fr h _ rt ex _ _ => e fr h (kxOf ex fr) rt
def sIf (t : Tx) (a b : Sx) : Sx := fun fr h nx rt ex bk ct => t fr h (kxOf ex fr) fun c h => cnd c (a fr h nx rt ex bk ct) (b fr h nx rt ex bk ct)
def sAsg (g : Gx) (e : Ex) : Sx := fun fr h nx _ ex _ _ => e fr h (kxOf ex fr) fun d h => g d fr h nx
/-- a, b = x, y with plain local names: no tuple is made -/
def sPar2 (i j : Nat) (es : Exs) : Sx := fun fr h nx _ ex _ _ => es fr h (kxOf ex fr) fun ds h => List.casesOn ds false fun d r => arg1 false r fun e => nx (setAt (setAt fr i (some d)) j (some e)) h
def sPar3 (i j l : Nat) (es : Exs) : Sx := fun fr h nx _ ex _ _ => es fr h (kxOf ex fr) fun ds h => List.casesOn ds false fun d r => List.casesOn r false fun e r => arg1 false r fun f => nx (setAt (setAt (setAt fr i (some d)) j (some e)) l (some f)) h
def sSetIx (o i v : Ex) : Sx := fun fr h nx _ ex _ _ => v fr h (kxOf ex fr) fun z h => o fr h (kxOf ex fr) fun x h => i fr h (kxOf ex fr) fun y h => onO false (setIx x y z h) fun h => nx fr h
def forLoop (g : Gx) (j : It) (b : Sx) (nx : KN) (rt : KV) (ex : KE) (fuel : Nat) : Nat → Fr → DH → Bool :=
  Nat.rec (motive := fun _ => Nat → Fr → DH → Bool) (fun _ _ _ => false) (fun _ loop i fr h => turn (j.nxt i h) (nx fr h) fun x => g x fr h fun fr h => b fr h (loop (Nat.succ i)) rt ex nx (loop (Nat.succ i))) fuel
def sFor (g : Gx) (it : Ix) (b : Sx) : Sx := fun fr h nx rt ex _ _ => it fr h (kxOf ex fr) fun j h => forLoop g j b nx rt ex lcF 0 fr h
/-! a loop over a range whose turns leave the state as it was, but for some names that nothing behind asks -/
def listEq {α : Type} (f : α → α → Bool) (xs ys : List α) : Bool := List.rec (motive := fun _ => List α → Bool) nilB (fun a _ ih ys => List.casesOn ys false fun b s => cnd (f a b) (ih s) false) xs ys
def dvStep (ih : DV → DV → Bool) (x y : DV) : Bool := DV.casesOn x (DV.casesOn y true (fun _ => false) (fun _ => false) (fun _ => false) (fun _ => false) (fun _ => false) (fun _ _ => false) (fun _ _ => false) (fun _ => false))
  (fun a => onB false y fun b => cnd a b (cnd b false true)) (fun a => onI false y fun b => intEq a b) (fun a => onS false y fun b => natsEq a b) (fun a => onT false y fun b => listEq ih a b) (fun i => onR false y fun j => Nat.beq i j)
  (fun k a => onF false y fun l b => cnd (Nat.beq k l) (listEq ih a b) false) (fun k a => onX false y fun l b => cnd (Nat.beq k l) (listEq ih a b) false) (fun _ => false)
def dvEq (fuel : Nat) : DV → DV → Bool := Nat.rec (motive := fun _ => DV → DV → Bool) (fun _ _ => false) (fun _ ih => dvStep ih) fuel
def optEq (o p : Option DV) : Bool := Option.rec (Option.rec true (fun _ => false) p) (fun a => onO false p fun b => dvEq 30 a b) o
def pairEq (p q : DP) : Bool := cnd (dvEq 30 p.1 q.1) (dvEq 30 p.2 q.2) false
def objEq (o p : Option DObj) : Bool := onO false o fun x => DObj.casesOn x (fun a => obL false p fun b => listEq (dvEq 30) a b) (fun a => obD false p fun b => listEq pairEq a b) (fun a => obC false p fun b => optEq a b) (obP false p true) (fun _ => false)
/-- the cells of some slots emptied -/
def hDrop (dropc : List Nat) (fr : Fr) (h : DH) : DH := List.rec (motive := fun _ => DH) h (fun i _ ih => onO ih (nth fr i) fun o => onO ih o fun d => onR ih d fun c => ih.put c (.cell none)) dropc
def sameSt (drop : List Nat) (fr0 : Fr) (h0 : DH) (fr : Fr) (h : DH) : Bool := cnd (listEq optEq (bDrop drop fr) fr0) (upTo h0.n fun i => objEq (h.get i) (h0.get i)) false
def sForG (drop dropc : List Nat) (b : Sx) (nx : KN) (rt : KV) (ex : KE) (fr0 : Fr) (h0 : DH) : Bool :=
  cnd (b fr0 h0 (fun fr h => sameSt drop fr0 h0 fr (hDrop dropc fr h)) rt ex noN (fun fr h => sameSt drop fr0 h0 fr (hDrop dropc fr h))) (nx fr0 h0) false
def sForS (drop dropc : List Nat) (es : Exs) (b : Sx) : Sx := fun fr h nx rt ex _ _ => es fr h (kxOf ex fr) fun ds h => arg1 false ds fun d => onI false d fun n => cnd (small62 n) (sForG drop dropc b nx rt ex (bDrop drop fr) (hDrop dropc fr h)) false
def whLoop (t : Tx) (b : Sx) (nx : KN) (rt : KV) (ex : KE) (fuel : Nat) : Fr → DH → Bool :=
  Nat.rec (motive := fun _ => Fr → DH → Bool) (fun _ _ => false) (fun _ loop fr h => t fr h (kxOf ex fr) fun c h => cnd c (b fr h loop rt ex nx loop) (nx fr h)) fuel
def sWhile (t : Tx) (b : Sx) : Sx := fun fr h nx rt ex _ _ => whLoop t b nx rt ex lcF fr h
/-- what is never reached -/
def sNo : Sx := fun _ _ _ _ _ _ _ => false
def cNo : Ex := fun _ _ _ _ => false
def sRaise (c : Nat) (es : Exs) : Sx := fun fr h _ _ ex _ _ => es fr h (kxOf ex fr) fun fs h => ex c fs fr h
/-- except clauses: (is the class one of theirs, the name's slot, the suite) -/
structure Hd where
  is : Nat → Bool
  slot : Nat
  suite : Sx


def handle (c : Nat) (fs : List DV) (fr : Fr) (h : DH) (nx : KN) (rt : KV) (ex : KE) (hs : List Hd) : Bool :=
  List.rec (ex c fs fr h) (fun a _ ih => cnd (a.is c) (a.suite (setAt fr a.slot (some (.exn c fs))) h (fun fr h => nx (setAt fr a.slot none) h) rt noE noN noN) ih) hs
def sTry (b : Sx) (hs : List Hd) : Sx := fun fr h nx rt ex bk ct => b fr h nx rt (fun c fs fr h => handle c fs fr h nx rt ex hs) bk ct
/-! ### calls -/
/-- a def -/
inductive FnD where
  | body (np : Nat) (cells : List Nat) (more : Nat) (b : Call → Sx)
  | lam (np : Nat) (more : Nat) (e : Call → Ex)
  | nat (f : List DV → DH → KX → KV → Bool)
def nones (n : Nat) : Fr := Nat.rec [] (fun _ ih => none :: ih) n
/-- the frame at the start: parameters, captured ones told by a cell each; then the other names -/
def frOf (cells : List Nat) (k : KN) (as : List DV) (i : Nat) (acc : Fr) (h : DH) : Bool :=
  List.rec (motive := fun _ => Nat → Fr → DH → Bool) (fun _ acc h => k acc h) (fun d _ ih i acc h => cnd (anyL (Nat.beq i) cells) (ih (Nat.succ i) (some (.ref h.n) :: acc) (h.new (.cell (some d)))) (ih (Nat.succ i) (some d :: acc) h)) as i acc h
def moreCells (np : Nat) (k : KN) (cells : List Nat) (fr : Fr) (h : DH) : Bool :=
  List.rec (motive := fun _ => Fr → DH → Bool) (fun fr h => k fr h) (fun c _ ih fr h => cnd (Nat.ble (Nat.succ c) np) (ih fr h) (ih (setAt fr c (some (.ref h.n))) (h.new (.cell none)))) cells fr h
def plainFr (more : Nat) (as : List DV) : Fr := List.rec (nones more) (fun a _ ih => some a :: ih) as
def startFr (np : Nat) (cells : List Nat) (more : Nat) (as : List DV) (h : DH) (k : KN) : Bool :=
  List.casesOn cells (k (plainFr more as) h) fun _ _ => frOf cells (fun acc h => moreCells np k cells (revO acc (nones more)) h) as 0 [] h
def runFn (call : Call) (f : FnD) (as : List DV) (h : DH) (kx : KX) (k : KV) : Bool := FnD.casesOn f
  (fun np cells more b => cnd (Nat.beq (lenN as) np) (startFr np cells more as h fun fr h => b call fr h (fun _ h => k .non h) k (fun c fs _ h => kx c fs h) noN noN) false)
  (fun np more e => cnd (Nat.beq (lenN as) np) (e call (plainFr more as) h kx k) false)
  (fun g => g as h kx k)
def callK (fns : Nat → FnD) (fuel : Nat) : Call := Nat.rec (motive := fun _ => Call) (fun _ _ _ _ _ => false) (fun _ ih f as h kx k => runFn ih (fns f) as h kx k) fuel
/-! ### what the law draws -/
/-- a pot of the script's k-th number -/
def potN (as : List DV) (h : DH) (kx : KX) (k : KV) : Bool := List.casesOn as false fun p r => arg1 false r fun m => onScr false p fun _ => onI false m fun i => cnd (intLt i 0) false (cnd (Nat.ble i.natAbs 1000) (k (.ref h.n) (h.new .pot)) false)
def drawN (as : List DV) (h : DH) (kx : KX) (k : KV) : Bool := List.casesOn as false fun p r => onR false p fun i => arg1 false r fun m => onI false m fun n => obP false (h.get i) (cnd (intLt 0 n) (cnd (small62 n) (upTo n.toNat fun d => k (.int (.ofNat d)) h) false) false)
def h0 : DH := (⟨0, .e⟩ : DH).new .pot
def isT (d : DV) (_ : DH) : Bool := onB false d fun b => b
def noX (_ : Nat) (_ : List DV) (_ : DH) : Bool := false
end
end Dz

set_option Elab.async false
set_option linter.all false
set_option maxRecDepth 100000
set_option maxHeartbeats 2000000
/-! Dz: how plain data stand for the model's values, heaps, frames. -/
namespace Dz
open PySem L2
/-! ### the heap's laws -/
theorem cnd_true {α : Type} (a b : α) : cnd true a b = a := rfl
theorem cnd_false {α : Type} (a b : α) : cnd false a b = b := rfl
theorem trGet_nd (o : Option DObj) (l r : Tr) (i : Nat) : trGet (.nd o l r) i = cnd (Nat.beq i 0) o (cnd (Nat.beq (i % 2) 1) (trGet l (i / 2)) (trGet r ((i - 1) / 2))) := rfl
theorem trGet_e (i : Nat) : trGet .e i = none := rfl
theorem trGet_kids (t : Tr) (i : Nat) : trGet t i = cnd (Nat.beq i 0) t.val (cnd (Nat.beq (i % 2) 1) (trGet t.lk (i / 2)) (trGet t.rk ((i - 1) / 2))) := by
  cases t with
  | e =>
    show none = _
    show none = cnd (Nat.beq i 0) none (cnd (Nat.beq (i % 2) 1) none none)
    cases Nat.beq i 0 <;> cases Nat.beq (i % 2) 1 <;> rfl
  | nd o l r => exact trGet_nd o l r i
theorem trSet_succ (f : Nat) (t : Tr) (i : Nat) (o : Option DObj) : trSet (f + 1) t i o = cnd (Nat.beq i 0) (.nd o t.lk t.rk) (cnd (Nat.beq (i % 2) 1) (.nd t.val (trSet f t.lk (i / 2) o) t.rk) (.nd t.val t.lk (trSet f t.rk ((i - 1) / 2) o))) := rfl
theorem beq_t {a b : Nat} (h : a = b) : Nat.beq a b = true := by subst h; exact Nat.beq_refl a
theorem beq_f {a b : Nat} (h : a ≠ b) : Nat.beq a b = false := by
  cases e : Nat.beq a b with
  | false => rfl
  | true => exact absurd (Nat.eq_of_beq_eq_true e) h
theorem trGet_set_ne : ∀ (f : Nat) (t : Tr) (i j : Nat) (o : Option DObj), j ≠ i → trGet (trSet f t i o) j = trGet t j
  | 0, _, _, _, _, _ => rfl
  | f + 1, t, i, j, o, h => by
    rw [trSet_succ, trGet_kids t j]
    by_cases hi : i = 0
    · rw [beq_t hi, cnd_true, trGet_nd, beq_f (by omega : j ≠ 0)]
      rfl
    · rw [beq_f hi, cnd_false]
      by_cases h1 : i % 2 = 1
      · rw [beq_t h1, cnd_true, trGet_nd]
        by_cases hj : j = 0
        · rw [beq_t hj]; rfl
        · rw [beq_f hj, cnd_false, cnd_false]
          by_cases h2 : j % 2 = 1
          · rw [beq_t h2, cnd_true, cnd_true]
            exact trGet_set_ne f _ _ _ _ (by omega)
          · rw [beq_f h2]; rfl
      · rw [beq_f h1, cnd_false, trGet_nd]
        by_cases hj : j = 0
        · rw [beq_t hj]; rfl
        · rw [beq_f hj, cnd_false, cnd_false]
          by_cases h2 : j % 2 = 1
          · rw [beq_t h2]; rfl
          · rw [beq_f h2, cnd_false, cnd_false]
            exact trGet_set_ne f _ _ _ _ (by omega)
theorem trGet_set_same : ∀ (f : Nat) (t : Tr) (i : Nat) (o : Option DObj), i + 1 < 2 ^ f → trGet (trSet f t i o) i = o
  | 0, _, i, _, h => by simp at h
  | f + 1, t, i, o, h => by
    rw [trSet_succ]
    have hp : 2 ^ (f + 1) = 2 * 2 ^ f := by rw [Nat.pow_succ]; omega
    by_cases hi : i = 0
    · subst hi; rfl
    · rw [beq_f hi, cnd_false]
      by_cases h1 : i % 2 = 1
      · rw [beq_t h1, cnd_true, trGet_nd, beq_f hi, cnd_false, beq_t h1, cnd_true]
        exact trGet_set_same f _ _ _ (by omega)
      · rw [beq_f h1, cnd_false, trGet_nd, beq_f hi, cnd_false, beq_f h1, cnd_false]
        exact trGet_set_same f _ _ _ (by omega)
theorem fuel_ok (i : Nat) : i + 1 < 2 ^ trFuel i := by
  have h : i + 1 < 2 ^ ((i + 1).log2 + 1) := Nat.lt_log2_self
  have h2 : 2 ^ (trFuel i) = 2 * 2 ^ ((i + 1).log2 + 1) := by
    show 2 ^ ((i + 1).log2 + 2) = _
    rw [Nat.pow_succ]; omega
  omega
theorem get_put_same (h : DH) (i : Nat) (o : DObj) : (h.put i o).get i = some o := trGet_set_same _ _ _ _ (fuel_ok i)
theorem get_put_ne (h : DH) {i j : Nat} (o : DObj) (e : j ≠ i) : (h.put i o).get j = h.get j := trGet_set_ne (trFuel i) h.t i j (some o) e
theorem get_new_same (h : DH) (o : DObj) : (h.new o).get h.n = some o := trGet_set_same _ _ _ _ (fuel_ok h.n)
theorem get_new_ne (h : DH) {j : Nat} (o : DObj) (e : j ≠ h.n) : (h.new o).get j = h.get j := trGet_set_ne (trFuel h.n) h.t h.n j (some o) e
theorem put_n (h : DH) (i : Nat) (o : DObj) : (h.put i o).n = h.n := rfl
theorem new_n (h : DH) (o : DObj) : (h.new o).n = h.n + 1 := rfl
/-! ### lists -/
theorem nth_eq {α : Type} : ∀ (xs : List α) (n : Nat), nth xs n = xs[n]?
  | [], _ => rfl
  | _ :: _, 0 => rfl
  | _ :: r, n + 1 => nth_eq r n
theorem setAt_eq {α : Type} : ∀ (xs : List α) (n : Nat) (b : α), setAt xs n b = xs.set n b
  | [], _, _ => rfl
  | _ :: _, 0, _ => rfl
  | a :: r, n + 1, b => congrArg (a :: ·) (setAt_eq r n b)
theorem lenN_eq {α : Type} : ∀ xs : List α, lenN xs = xs.length
  | [] => rfl
  | _ :: r => congrArg Nat.succ (lenN_eq r)
theorem app_eq {α : Type} : ∀ xs ys : List α, app xs ys = xs ++ ys
  | [], _ => rfl
  | a :: r, ys => congrArg (a :: ·) (app_eq r ys)
theorem mapL_eq {α β : Type} (f : α → β) : ∀ xs : List α, mapL f xs = xs.map f
  | [] => rfl
  | a :: r => congrArg (f a :: ·) (mapL_eq f r)
theorem revO_eq {α : Type} : ∀ xs acc : List α, revO xs acc = xs.reverse ++ acc
  | [], _ => rfl
  | a :: r, acc => by
    show revO r (a :: acc) = _
    rw [revO_eq r]; simp
theorem takeN_eq {α : Type} : ∀ (n : Nat) (xs : List α), takeN n xs = xs.take n
  | 0, _ => rfl
  | n + 1, [] => rfl
  | n + 1, a :: r => congrArg (a :: ·) (takeN_eq n r)
theorem dropN_eq {α : Type} : ∀ (n : Nat) (xs : List α), dropN n xs = xs.drop n
  | 0, _ => rfl
  | n + 1, [] => by
    show ([] : List α) = _
    simp
  | n + 1, _ :: r => dropN_eq n r
theorem nilB_true {α : Type} {xs : List α} (h : nilB xs = true) : xs = [] := by
  cases xs with
  | nil => rfl
  | cons a r => cases h
theorem cnd_elim {c a b : Bool} (h : cnd c a b = true) : (c = true ∧ a = true) ∨ (c = false ∧ b = true) := by
  cases c
  · exact .inr ⟨rfl, h⟩
  · exact .inl ⟨rfl, h⟩
theorem cnd_and {c a : Bool} (h : cnd c a false = true) : c = true ∧ a = true := by
  cases c
  · cases h
  · exact ⟨rfl, h⟩
theorem onO_some {α : Type} {o : Option α} {k : α → Bool} (h : onO false o k = true) : ∃ a, o = some a ∧ k a = true := by
  cases o with
  | none => cases h
  | some a => exact ⟨a, rfl, h⟩
theorem ko_some {o : Option DV} {h : DH} {k : KV} (e : ko o h k = true) : ∃ d, o = some d ∧ k d h = true := by
  cases o with
  | none => cases e
  | some a => exact ⟨a, rfl, e⟩
theorem kh_some {o : RH} {k : KV} (e : kh o k = true) : ∃ d h', o = some (d, h') ∧ k d h' = true := by
  cases o with
  | none => cases e
  | some a => exact ⟨a.1, a.2, rfl, e⟩
theorem onB_of {x : DV} {k : Bool → Bool} (h : onB false x k = true) : ∃ b, x = .bl b ∧ k b = true := by
  cases x <;> first | exact ⟨_, rfl, h⟩ | cases h
theorem onI_of {x : DV} {k : Int → Bool} (h : onI false x k = true) : ∃ b, x = .int b ∧ k b = true := by
  cases x <;> first | exact ⟨_, rfl, h⟩ | cases h
theorem onR_of {x : DV} {k : Nat → Bool} (h : onR false x k = true) : ∃ b, x = .ref b ∧ k b = true := by
  cases x <;> first | exact ⟨_, rfl, h⟩ | cases h
theorem onT_of {x : DV} {k : List DV → Bool} (h : onT false x k = true) : ∃ b, x = .tup b ∧ k b = true := by
  cases x <;> first | exact ⟨_, rfl, h⟩ | cases h
theorem onF_of {x : DV} {k : Nat → List DV → Bool} (h : onF false x k = true) : ∃ b c, x = .fn b c ∧ k b c = true := by
  cases x <;> first | exact ⟨_, _, rfl, h⟩ | cases h
theorem onX_of {x : DV} {k : Nat → List DV → Bool} (h : onX false x k = true) : ∃ b c, x = .exn b c ∧ k b c = true := by
  cases x <;> first | exact ⟨_, _, rfl, h⟩ | cases h
theorem obD_of {o : Option DObj} {k : List DP → Bool} (h : obD false o k = true) : ∃ b, o = some (.dic b) ∧ k b = true := by
  cases o with
  | none => cases h
  | some o => cases o <;> first | exact ⟨_, rfl, h⟩ | cases h
theorem obC_of {o : Option DObj} {k : Option DV → Bool} (h : obC false o k = true) : ∃ b, o = some (.cell b) ∧ k b = true := by
  cases o with
  | none => cases h
  | some o => cases o <;> first | exact ⟨_, rfl, h⟩ | cases h
theorem obP_of {o : Option DObj} {k : Bool} (h : obP false o k = true) : o = some .pot ∧ k = true := by
  cases o with
  | none => cases h
  | some o => cases o <;> first | exact ⟨rfl, h⟩ | cases h
theorem slot_of {fr : Fr} {i : Nat} {k : DV → Bool} (h : slotK fr i k = true) : ∃ d, fr[i]? = some (some d) ∧ k d = true := by
  obtain ⟨o, e1, h⟩ := onO_some h
  obtain ⟨d, e2, h⟩ := onO_some h
  subst e2
  rw [nth_eq] at e1
  exact ⟨d, e1, h⟩
/-! ### what the written part tells: where the defs and the own classes stand, the lambdas' texts -/
structure LamT where
  name : Str
  qual : Str
  params : Arguments
  body : Expr
  scope : Scope
  ps : List Str
  fr : List Str
structure Gv where
  K : PySem.W.Frag
  nf : Nat
  fa : Nat → Addr
  ca : Nat → Addr
  flds : Nat → List Str
  lam : Nat → Option LamT
  T : List NdefX.NTab
  /-- repr is used: the guards stand empty -/
  gd : Bool
  w : World
/-- a lambda's object -/
def LamO (f : Addr) (L : LamT) (cl : List (Str × Addr)) (c : Addr) : HO := .ext fun h => ∃ (pm ctv : Value), h.get? f = some (PySem.W.kla_obj L.name L.qual L.params L.body L.scope cl pm c ctv)
/-- a cell's object, exactly -/
def CellO (a : Addr) (o : Obj) : HO := .ext fun h => h.get? a = some o ∧ ∃ w, o.data = .cell w
/-- a place of the data's heap: an object's address, a cell's -/
inductive Loc where
  | ob (a : Addr) | ce (a : Addr)
  deriving DecidableEq
/-- at f: the lambda k, with the cells at caps -/
def RelF (G : Gv) (ρ : List Loc) (H : Hp) (k : Nat) (caps : List DV) (f : Addr) : Prop :=
  (caps = [] ∧ k < G.nf ∧ f = G.fa k) ∨ ∃ (L : LamT) (cl : List (Str × Addr)) (c : Addr), G.lam k = some L ∧ H f = some (LamO f L cl c) ∧ H c = some (LamX.CodeO c L.qual) ∧ cl.map (·.1) = L.fr ∧ caps.length = cl.length ∧
    ∀ (i : Nat) (y : Str) (a : Addr), cl[i]? = some (y, a) → ∃ j : Nat, caps[i]? = some (DV.ref j) ∧ ρ[j]? = some (Loc.ce a)
/-- the law's script, of so many numbers -/
def RelScr (G : Gv) (t : Ty) (H : Hp) (v : V) : Prop := ∃ (a : Addr) (ns : List Int), v = V.ref a ∧ (t = .own ns.length ∧ ns.length ≤ 63) ∧ ((∃ o, H a = some (.frz o (.lst (ns.map V.int)))) ∨ SqL G.K (fun _ => none) a (ns.map V.int))
mutual
def RelD (G : Gv) (ρ : List Loc) (H : Hp) : DV → V → Prop
  | .non, v => v = .non
  | .bl b, v => v = .bl b
  | .int i, v => v = .int i
  | .str x, v => v = .str ⟨x.toArray⟩
  | .tup xs, v => ∃ a vs, v = V.ref a ∧ H a = some (.tup vs) ∧ RelDs G ρ H xs vs
  | .ref i, v => ∃ a, v = V.ref a ∧ ρ[i]? = some (Loc.ob a)
  | .fn k caps, v => ∃ a, v = V.ref a ∧ RelF G ρ H k caps a
  | .exn _ _, _ => False
  | .cl t, v => RelScr G t H v
def RelDs (G : Gv) (ρ : List Loc) (H : Hp) : List DV → List V → Prop
  | [], vs => vs = []
  | x :: xs, vs => ∃ (v : V) (r : List V), vs = v :: r ∧ RelD G ρ H x v ∧ RelDs G ρ H xs r
end
/-- later: the known places stay in front; what is tracked and no known place stays; cells, lambdas, code stay -/
structure Le (ρ : List Loc) (H : Hp) (ρ' : List Loc) (H' : Hp) : Prop where
  pre : ∃ more, ρ' = ρ ++ more ∧ ∀ a, Loc.ob a ∈ more → H a = none
  keep : ∀ a o, H a = some o → Loc.ob a ∉ ρ → (∀ ps, o ≠ .tbl ps) → H' a = some o
  there : ∀ a, H' a = none → H a = none
  cells : ∀ a o, H a = some (CellO a o) → H' a = some (CellO a o)
  lams : ∀ f L cl c, H f = some (LamO f L cl c) → H' f = some (LamO f L cl c)
  codes : ∀ c q, H c = some (LamX.CodeO c q) → H' c = some (LamX.CodeO c q)
theorem Le.refl (ρ : List Loc) (H : Hp) : Le ρ H ρ H := ⟨⟨[], by simp, fun _ z => absurd z (by simp)⟩, fun _ _ h _ _ => h, fun _ h => h, fun _ _ h => h, fun _ _ _ _ h => h, fun _ _ h => h⟩
theorem Le.trans {ρ ρ1 ρ2 : List Loc} {H H1 H2 : Hp} (a : Le ρ H ρ1 H1) (b : Le ρ1 H1 ρ2 H2) : Le ρ H ρ2 H2 := by
  obtain ⟨m1, e1, f1⟩ := a.pre
  obtain ⟨m2, e2, f2⟩ := b.pre
  refine ⟨⟨m1 ++ m2, by rw [e2, e1, List.append_assoc], fun x hx => ?_⟩, fun x o h n t => ?_, fun x h => a.there x (b.there x h), fun x o h => b.cells x o (a.cells x o h), fun f L cl c h => b.lams f L cl c (a.lams f L cl c h), fun c q h => b.codes c q (a.codes c q h)⟩
  · rcases List.mem_append.mp hx with z | z
    · exact f1 x z
    · exact a.there x (f2 x z)
  · refine b.keep x o (a.keep x o h n t) (fun z => ?_) t
    rw [e1] at z
    rcases List.mem_append.mp z with z | z
    · exact n z
    · rw [f1 x z] at h; cases h
theorem Le.at {ρ ρ' : List Loc} {H H' : Hp} (le : Le ρ H ρ' H') {i : Nat} {a : Loc} (h : ρ[i]? = some a) : ρ'[i]? = some a := by
  obtain ⟨m, e, _⟩ := le.pre
  rw [e, List.getElem?_append_left (List.getElem?_eq_some_iff.mp h).1]
  exact h
/-- a known place holds no tuple -/
def Plain (H : Hp) (ρ : List Loc) : Prop := ∀ a, Loc.ob a ∈ ρ → ((∀ xs, ¬ Rd H a (.tup xs)) ∧ H a ≠ none) ∧ ∀ o u, H a ≠ some (.frz o u)
theorem Rd_later {ρ ρ' : List Loc} {H H' : Hp} (p : Plain H ρ) (le : Le ρ H ρ' H') {a : Addr} {xs : List V} (h : Rd H a (.tup xs)) : Rd H' a (.tup xs) := by
  rcases h with h | ⟨o, h⟩
  · exact .inl (le.keep a _ h (fun z => (p a z).1.1 xs (.inl h)) fun ps q => by cases q)
  · exact .inr ⟨o, le.keep a _ h (fun z => (p a z).1.1 xs (.inr ⟨o, h⟩)) fun ps q => by cases q⟩
theorem tup_later {ρ ρ' : List Loc} {H H' : Hp} (p : Plain H ρ) (le : Le ρ H ρ' H') {a : Addr} {xs : List V} (h : H a = some (.tup xs)) : H' a = some (.tup xs) := le.keep a _ h (fun z => (p a z).1.1 xs (.inl h)) fun ps q => by cases q
theorem RelF_later {G : Gv} {ρ ρ' : List Loc} {H H' : Hp} (le : Le ρ H ρ' H') {k : Nat} {caps : List DV} {f : Addr} (h : RelF G ρ H k caps f) : RelF G ρ' H' k caps f := by
  rcases h with h | ⟨L, cl, c, h1, h2, h3, h4, h5, h6⟩
  · exact .inl h
  · refine .inr ⟨L, cl, c, h1, le.lams f L cl c h2, le.codes c _ h3, h4, h5, fun i y a e => ?_⟩
    obtain ⟨j, e1, e2⟩ := h6 i y a e
    exact ⟨j, e1, le.at e2⟩
mutual
theorem RelD.later {G : Gv} {ρ ρ' : List Loc} {H H' : Hp} (p : Plain H ρ) (le : Le ρ H ρ' H') : ∀ {d : DV} {v : V}, RelD G ρ H d v → RelD G ρ' H' d v
  | .non, v, h => h
  | .bl b, v, h => h
  | .int i, v, h => h
  | .str x, v, h => h
  | .tup xs, v, h => by
    obtain ⟨a, vs, e, s, r⟩ := (show ∃ a vs, v = V.ref a ∧ H a = some (.tup vs) ∧ RelDs G ρ H xs vs from by unfold RelD at h; exact h)
    unfold RelD
    exact ⟨a, vs, e, tup_later p le s, RelDs.later p le r⟩
  | .ref i, v, h => by
    unfold RelD at h ⊢
    obtain ⟨a, e, r⟩ := h
    exact ⟨a, e, le.at r⟩
  | .fn k caps, v, h => by
    unfold RelD at h ⊢
    obtain ⟨a, e, r⟩ := h
    exact ⟨a, e, RelF_later le r⟩
  | .exn _ _, _, h => by unfold RelD at h; exact h.elim
  | .cl _, _, h => by
    unfold RelD at h ⊢
    obtain ⟨a, ns, e, l, q⟩ := h
    refine ⟨a, ns, e, l, q.imp (fun ⟨o, z⟩ => ⟨o, le.keep a _ z (fun w => (p a w).2 _ _ z) fun ps w => by cases w⟩) id⟩
theorem RelDs.later {G : Gv} {ρ ρ' : List Loc} {H H' : Hp} (p : Plain H ρ) (le : Le ρ H ρ' H') : ∀ {ds : List DV} {vs : List V}, RelDs G ρ H ds vs → RelDs G ρ' H' ds vs
  | [], vs, h => by unfold RelDs at h ⊢; exact h
  | x :: xs, vs, h => by
    unfold RelDs at h ⊢
    obtain ⟨v, r, e, r1, r2⟩ := h
    exact ⟨v, r, e, RelD.later p le r1, RelDs.later p le r2⟩
end
section
variable {G : Gv} {ρ : List Loc} {H : Hp}
theorem rel_non {v : V} : RelD G ρ H .non v ↔ v = .non := by unfold RelD; exact Iff.rfl
theorem rel_bl {b : Bool} {v : V} : RelD G ρ H (.bl b) v ↔ v = .bl b := by unfold RelD; exact Iff.rfl
theorem rel_int {i : Int} {v : V} : RelD G ρ H (.int i) v ↔ v = .int i := by unfold RelD; exact Iff.rfl
theorem rel_str {x : List Nat} {v : V} : RelD G ρ H (.str x) v ↔ v = .str ⟨x.toArray⟩ := by unfold RelD; exact Iff.rfl
theorem rel_tup {xs : List DV} {v : V} : RelD G ρ H (.tup xs) v ↔ ∃ a vs, v = V.ref a ∧ H a = some (.tup vs) ∧ RelDs G ρ H xs vs := by conv => lhs; unfold RelD
theorem rel_ref {i : Nat} {v : V} : RelD G ρ H (.ref i) v ↔ ∃ a, v = V.ref a ∧ ρ[i]? = some (Loc.ob a) := by conv => lhs; unfold RelD
theorem rel_fn {k : Nat} {c : List DV} {v : V} : RelD G ρ H (.fn k c) v ↔ ∃ a, v = V.ref a ∧ RelF G ρ H k c a := by conv => lhs; unfold RelD
theorem rel_exn {k : Nat} {c : List DV} {v : V} : ¬ RelD G ρ H (.exn k c) v := by unfold RelD; exact id
theorem rel_cl {t : Ty} {v : V} : RelD G ρ H (.cl t) v ↔ RelScr G t H v := by conv => lhs; unfold RelD
theorem rels_nil {vs : List V} : RelDs G ρ H [] vs ↔ vs = [] := by unfold RelDs; exact Iff.rfl
theorem rels_cons {x : DV} {xs : List DV} {vs : List V} : RelDs G ρ H (x :: xs) vs ↔ ∃ (v : V) (r : List V), vs = v :: r ∧ RelD G ρ H x v ∧ RelDs G ρ H xs r := by conv => lhs; unfold RelDs
theorem rels_length : ∀ {xs : List DV} {vs : List V}, RelDs G ρ H xs vs → xs.length = vs.length
  | [], vs, h => by rw [rels_nil] at h; subst h; rfl
  | x :: xs, vs, h => by
    rw [rels_cons] at h
    obtain ⟨v, r, rfl, _, h⟩ := h
    simp [rels_length h]
theorem rels_get : ∀ {xs : List DV} {vs : List V} {i : Nat} {d : DV}, RelDs G ρ H xs vs → xs[i]? = some d → ∃ v, vs[i]? = some v ∧ RelD G ρ H d v
  | [], vs, i, d, h, e => by simp at e
  | x :: xs, vs, 0, d, h, e => by
    rw [rels_cons] at h
    obtain ⟨v, r, rfl, h1, _⟩ := h
    simp at e; subst e
    exact ⟨v, rfl, h1⟩
  | x :: xs, vs, i + 1, d, h, e => by
    rw [rels_cons] at h
    obtain ⟨v, r, rfl, _, h⟩ := h
    exact rels_get (i := i) h (by simpa using e)
theorem rels_none {xs : List DV} {vs : List V} {i : Nat} (h : RelDs G ρ H xs vs) (e : xs[i]? = none) : vs[i]? = none := by
  rw [List.getElem?_eq_none_iff] at e ⊢
  rw [← rels_length h]; exact e
theorem rels_app : ∀ {xs ys : List DV} {vs us : List V}, RelDs G ρ H xs vs → RelDs G ρ H ys us → RelDs G ρ H (xs ++ ys) (vs ++ us)
  | [], ys, vs, us, h, q => by rw [rels_nil] at h; subst h; exact q
  | x :: xs, ys, vs, us, h, q => by
    rw [rels_cons] at h
    obtain ⟨v, r, rfl, h1, h⟩ := h
    exact rels_cons.mpr ⟨v, r ++ us, rfl, h1, rels_app h q⟩
theorem rels_take : ∀ {xs : List DV} {vs : List V} (n : Nat), RelDs G ρ H xs vs → RelDs G ρ H (xs.take n) (vs.take n)
  | _, _, 0, _ => rels_nil.mpr rfl
  | [], vs, n + 1, h => by rw [rels_nil] at h; subst h; exact rels_nil.mpr rfl
  | x :: xs, vs, n + 1, h => by
    rw [rels_cons] at h
    obtain ⟨v, r, rfl, h1, h⟩ := h
    exact rels_cons.mpr ⟨v, r.take n, rfl, h1, rels_take n h⟩
theorem rels_drop : ∀ {xs : List DV} {vs : List V} (n : Nat), RelDs G ρ H xs vs → RelDs G ρ H (xs.drop n) (vs.drop n)
  | _, _, 0, h => h
  | [], vs, n + 1, h => by rw [rels_nil] at h; subst h; exact rels_nil.mpr rfl
  | x :: xs, vs, n + 1, h => by
    rw [rels_cons] at h
    obtain ⟨v, r, rfl, _, h⟩ := h
    exact rels_drop n h
theorem rels_set : ∀ {xs : List DV} {vs : List V} {d : DV} {v : V} (n : Nat), RelDs G ρ H xs vs → RelD G ρ H d v → RelDs G ρ H (xs.set n d) (vs.set n v)
  | [], vs, _, _, _, h, _ => by rw [rels_nil] at h; subst h; exact rels_nil.mpr rfl
  | x :: xs, vs, d, v, 0, h, q => by
    rw [rels_cons] at h
    obtain ⟨u, r, rfl, _, h⟩ := h
    exact rels_cons.mpr ⟨v, r, rfl, q, h⟩
  | x :: xs, vs, d, v, n + 1, h, q => by
    rw [rels_cons] at h
    obtain ⟨u, r, rfl, h1, h⟩ := h
    exact rels_cons.mpr ⟨u, r.set n v, rfl, h1, rels_set n h q⟩
theorem rels_rev : ∀ {xs : List DV} {vs : List V}, RelDs G ρ H xs vs → RelDs G ρ H xs.reverse vs.reverse
  | [], vs, h => by rw [rels_nil] at h; subst h; exact rels_nil.mpr rfl
  | x :: xs, vs, h => by
    rw [rels_cons] at h
    obtain ⟨v, r, rfl, h1, h⟩ := h
    rw [List.reverse_cons, List.reverse_cons]
    exact rels_app (rels_rev h) (rels_cons.mpr ⟨v, [], rfl, h1, rels_nil.mpr rfl⟩)
end
/-! ### states -/
/-- the data at the entry of a def, of a block: how many places, the heap -/
structure Ent where
  n : Nat
  h : DH
/-- what a cell holds, as the context X knows: its own one (a name's slot), one that stood at the entry, a tracked one -/
inductive CK (X : Cx) (n0 : Ent) (cs : List Nat) (σ : L2.St) (H : Hp) (i : Nat) (a : Addr) (ov : Option V) : Prop
  | own (j : Nat) (x : Str) (hj : X.N[j]? = some x) (hm : j ∈ cs) (hc : X.env.cells.lookup x = some a) (hv : X.env.scope.names.lookup x = some .cell) (hfn : X.fn x = true) (hs : ∀ v, ov = some v → σ[j]? = some (some v))
  | st (o : Obj) (w : Option Value) (hi : i < n0.n) (ho : X.s_0.heap.get? a = some o) (hd : o.data = .cell w) (hH : X.H_0 a = none) (hf : a ∉ X.fs) (he : a ∉ X.ex) (hv : ∀ v, ov = some v → ∃ u, w = some u ∧ RelV v u)
  | tr (o : Obj) (w : Option Value) (hH : H a = some (CellO a o)) (hd : o.data = .cell w) (hv : ∀ v, ov = some v → ∃ u, w = some u ∧ RelV v u)
def keyD : Key → DV
  | .inl i => .int i
  | .inr x => .str x.cps.toList
/-- the dict at a: its keys ints and texts, or tuples of such -/
def DicAt (G : Gv) (ρ : List Loc) (H : Hp) (a : Addr) (kvs : List DP) : Prop :=
  (∃ ks : List (Key × V), ks ≠ [] ∧ H a = some (.dK ks) ∧ kvs.map (·.1) = ks.map (fun p => keyD p.1) ∧ RelDs G ρ H (kvs.map (·.2)) (ks.map (·.2))) ∨
  (∃ ks : List (List Key × V), H a = some (.dT ks) ∧ kvs.map (·.1) = ks.map (fun p => .tup (p.1.map keyD)) ∧ RelDs G ρ H (kvs.map (·.2)) (ks.map (·.2)))
/-- plain data as a key; fuel: its depth -/
def toN (n : Nat) : DV → Option NestedKey := Nat.rec (motive := fun _ => DV → Option NestedKey) (fun _ => none) (fun _ ih x =>
  DV.casesOn x (some .none) (fun _ => none) (fun i => some (.num i)) (fun s => some (.text ⟨s.toArray⟩)) (fun xs => (xs.mapM ih).map .tup) (fun _ => none) (fun _ _ => none) (fun _ _ => none) (fun _ => none)) n
/-- the dict at a, its keys tuples -/
def DicNO (w : World) (a : Addr) (xs : List (NestedKey × Addr × Value)) : HO := .ext fun h => ((a == sysModules) = false ∧ xs.length ≤ sizeLine ∧ (xs.map (·.1)).Nodup) ∧
  ∃ o es, h.get? a = some o ∧ o.ExactDict ∧ o.data = .dict es xs.length ∧ es.toList = xs.map fun x => ⟨x.1.hash w, .ref x.2.1, x.2.2⟩
structure NRel (G : Gv) (ρ : List Loc) (H : Hp) (kvs : List DP) (xs : List (NestedKey × Addr × Value)) (vs : List V) : Prop where
  keys : kvs.map (fun p => toN 8 p.1) = xs.map fun x => some x.1
  refs : RelDs G ρ H (kvs.map (·.1)) (xs.map fun x => V.ref x.2.1)
  vals : RelDs G ρ H (kvs.map (·.2)) vs
  objs : Vals vs (xs.map fun x => x.2.2)
def DicN (G : Gv) (ρ : List Loc) (H : Hp) (a : Addr) (kvs : List DP) : Prop := ∃ xs vs, H a = some (DicNO G.w a xs) ∧ NRel G ρ H kvs xs vs
/-- a pot's two numbers -/
def PotOk (x y : Int) : Prop := 0 ≤ x ∧ 0 ≤ y ∧ y < 4294967296
def ObjRel (G : Gv) (X : Cx) (n0 : Ent) (cs : List Nat) (σ : L2.St) (ρ : List Loc) (H : Hp) (i : Nat) (l : Loc) : DObj → Prop
  | .lst xs => ∃ a vs, l = .ob a ∧ H a = some (.lst vs) ∧ RelDs G ρ H xs vs
  | .dic kvs => ∃ a, l = .ob a ∧ DicAt G ρ H a kvs
  | .cell od => ∃ a ov, l = .ce a ∧ CK X n0 cs σ H i a ov ∧ ∀ d, od = some d → ∃ v, ov = some v ∧ RelD G ρ H d v
  | .pot => ∃ (a : Addr) (x y : Int), l = .ob a ∧ H a = some (.lst [.int x, .int y]) ∧ PotOk x y
  | .busy kvs => ∃ a, l = .ob a ∧ DicN G ρ H a kvs
structure HeapRel (G : Gv) (X : Cx) (n0 : Ent) (cs : List Nat) (σ : L2.St) (ρ : List Loc) (H : Hp) (dh : DH) : Prop where
  len : dh.n = ρ.length
  nd : ∀ (i j : Nat) (l : Loc), ρ[i]? = some l → ρ[j]? = some l → i = j
  low : n0.n ≤ ρ.length
  obj : ∀ (i : Nat) (l : Loc), ρ[i]? = some l → ∃ o, dh.get i = some o ∧ ObjRel G X n0 cs σ ρ H i l o
  tabs : NdefX.TabsN G.T H
/-- the frame: cs tells which slots are cells -/
def FrRel (G : Gv) (X : Cx) (n0 : Ent) (cs : List Nat) (σ : L2.St) (ρ : List Loc) (H : Hp) (dh : DH) (fr : Fr) : Prop :=
  ∀ (i : Nat) (d : DV), fr[i]? = some (some d) → (i ∉ cs ∧ ∃ v, σ[i]? = some (some v) ∧ RelD G ρ H d v) ∨ (i ∈ cs ∧ ∃ (c : Nat) (a : Addr) (x : Str), d = .ref c ∧ ρ[c]? = some (.ce a) ∧ X.N[i]? = some x ∧ X.env.cells.lookup x = some a ∧ Vis X.env.scope x ∧ (X.fn x = true → n0.n ≤ c) ∧
    ∀ d', dh.get c = some (.cell (some d')) → ∃ v, σ[i]? = some (some v) ∧ RelD G ρ H d' v)
structure StRel (G : Gv) (X : Cx) (n0 : Ent) (cs : List Nat) (ρ : List Loc) (dh : DH) (fr : Fr) (σ : L2.St) (H : Hp) : Prop where
  hr : HeapRel G X n0 cs σ ρ H dh
  sl : FrRel G X n0 cs σ ρ H dh fr
  fl : fr.length = σ.length
  wl : σ.length = X.N.length
  old : ∀ i, i < n0.n → ∀ o, n0.h.get i = some (.cell o) → dh.get i = some (.cell o)
section
variable {G : Gv} {X : Cx} {n0 : Ent} {cs : List Nat} {ρ ρ' : List Loc} {dh : DH} {fr : Fr} {σ : L2.St} {H H' : Hp}
theorem HeapRel.plain (h : HeapRel G X n0 cs σ ρ H dh) : Plain H ρ := fun a ha => by
  obtain ⟨i, hi⟩ := List.mem_iff_getElem?.mp ha
  obtain ⟨o, _, q⟩ := h.obj i _ hi
  have z : ∃ u, H a = some u ∧ (∀ xs, u ≠ .tup xs) ∧ ∀ o u', u ≠ .frz o u' := by
    cases o with
    | lst ys =>
      obtain ⟨a', vs, e, q, _⟩ := q
      cases e
      exact ⟨_, q, (fun _ z => nomatch z), (fun _ _ z => nomatch z)⟩
    | dic kvs =>
      obtain ⟨a', e, q⟩ := q
      cases e
      rcases q with ⟨ks, _, q, _⟩ | ⟨ks, q, _⟩
      · exact ⟨_, q, (fun _ z => nomatch z), (fun _ _ z => nomatch z)⟩
      · exact ⟨_, q, (fun _ z => nomatch z), (fun _ _ z => nomatch z)⟩
    | cell od =>
      obtain ⟨a', ov, e, _⟩ := q
      cases e
    | pot =>
      obtain ⟨a', x, y, e, q, _⟩ := q
      cases e
      exact ⟨_, q, (fun _ z => nomatch z), (fun _ _ z => nomatch z)⟩
    | busy kvs =>
      obtain ⟨a', e, xs, vs, q, _⟩ := q
      cases e
      exact ⟨_, q, (fun _ z => nomatch z), (fun _ _ z => nomatch z)⟩
  obtain ⟨u, e, n1, n2⟩ := z
  refine ⟨⟨fun xs r => ?_, by rw [e]; simp⟩, fun ob u' z => n2 ob u' (Option.some.inj (e.symm.trans z))⟩
  rcases r with r | ⟨ob, r⟩
  · rw [e] at r; exact n1 xs (Option.some.inj r)
  · rw [e] at r; exact n2 _ _ (Option.some.inj r)
theorem CK.later {i : Nat} {a : Addr} {ov : Option V} (c : CK X n0 cs σ H i a ov) (k : ∀ a o, H a = some (CellO a o) → H' a = some (CellO a o)) : CK X n0 cs σ H' i a ov := by
  cases c with
  | own j x hj hm hc hv hfn hs => exact .own j x hj hm hc hv hfn hs
  | st o w hi ho hd hH hf he hv => exact .st o w hi ho hd hH hf he hv
  | tr o w hH hd hv => exact .tr o w (k _ _ hH) hd hv
theorem DicAt.later {a : Addr} {kvs : List DP} (p : Plain H ρ) (le : Le ρ H ρ' H') (e : ∀ o, H a = some o → H' a = some o) (h : DicAt G ρ H a kvs) : DicAt G ρ' H' a kvs := by
  rcases h with ⟨ks, h0, h1, h2, h3⟩ | ⟨ks, h1, h2, h3⟩
  · exact .inl ⟨ks, h0, e _ h1, h2, RelDs.later p le h3⟩
  · exact .inr ⟨ks, e _ h1, h2, RelDs.later p le h3⟩
theorem DicN.later {a : Addr} {kvs : List DP} (p : Plain H ρ) (le : Le ρ H ρ' H') (e : ∀ o, H a = some o → H' a = some o) (h : DicN G ρ H a kvs) : DicN G ρ' H' a kvs := by
  obtain ⟨xs, vs, h1, h2, h3, h4, h5⟩ := h
  exact ⟨xs, vs, e _ h1, h2, RelDs.later p le h3, RelDs.later p le h4, h5⟩
/-- an object that stays -/
theorem ObjRel.later {i : Nat} {l : Loc} {o : DObj} (p : Plain H ρ) (le : Le ρ H ρ' H') (e : ∀ a o, l = .ob a → H a = some o → H' a = some o) (h : ObjRel G X n0 cs σ ρ H i l o) : ObjRel G X n0 cs σ ρ' H' i l o := by
  cases o with
  | lst xs =>
    obtain ⟨a, vs, h0, h1, h2⟩ := h
    exact ⟨a, vs, h0, e a _ h0 h1, RelDs.later p le h2⟩
  | dic kvs =>
    obtain ⟨a, h0, h1⟩ := h
    exact ⟨a, h0, DicAt.later p le (fun o q => e a o h0 q) h1⟩
  | cell od =>
    obtain ⟨a, ov, h0, c, h⟩ := h
    refine ⟨a, ov, h0, c.later le.cells, fun d hd => ?_⟩
    obtain ⟨v, h1, h2⟩ := h d hd
    exact ⟨v, h1, RelD.later p le h2⟩
  | pot =>
    obtain ⟨a, x, y, h0, h1, h2⟩ := h
    exact ⟨a, x, y, h0, e a _ h0 h1, h2⟩
  | busy kvs =>
    obtain ⟨a, h0, h1⟩ := h
    exact ⟨a, h0, h1.later p le fun o q => e a o h0 q⟩
theorem FrRel.later {dh' : DH} (p : Plain H ρ) (le : Le ρ H ρ' H') (h : FrRel G X n0 cs σ ρ H dh fr) (hc : ∀ c d, c < ρ.length → dh'.get c = some (.cell d) → dh.get c = some (.cell d)) : FrRel G X n0 cs σ ρ' H' dh' fr := fun i d e => by
  rcases h i d e with ⟨n, v, h1, h2⟩ | ⟨n, c, a, x, h1, h2, h3, h4, h5, h0, h6⟩
  · exact .inl ⟨n, v, h1, RelD.later p le h2⟩
  · refine .inr ⟨n, c, a, x, h1, le.at h2, h3, h4, h5, h0, fun d' e' => ?_⟩
    obtain ⟨v, z1, z2⟩ := h6 d' (hc c _ (List.getElem?_eq_some_iff.mp h2).1 e')
    exact ⟨v, z1, RelD.later p le z2⟩
theorem upd_keep {p : Addr} {o : HO} (hp : H p = none) : ∀ a u, H a = some u → L2.upd H p o a = some u := fun a u h => by rw [upd_ne (ne_of_none h hp)]; exact h
/-- something new is tracked at p, that is no place of the data -/
theorem le_upd {p : Addr} {o : HO} (hp : H p = none) : Le ρ H ρ (L2.upd H p o) := by
  have k := upd_keep (H := H) (o := o) hp
  refine ⟨⟨[], by simp, fun _ z => absurd z (by simp)⟩, fun a u h _ _ => k a u h, fun a h => ?_, fun a u h => k a _ h, fun f L cl c h => k f _ h, fun c q h => k c _ h⟩
  by_cases e : a = p
  · rw [e]; exact hp
  · rw [upd_ne e] at h; exact h
theorem st_upd {p : Addr} {o : HO} (h : StRel G X n0 cs ρ dh fr σ H) (hp : H p = none) : StRel G X n0 cs ρ dh fr σ (L2.upd H p o) := by
  have le : Le ρ H ρ (L2.upd H p o) := le_upd hp
  refine ⟨⟨h.hr.len, h.hr.nd, h.hr.low, fun i l e => ?_, h.hr.tabs.ext (upd_keep hp)⟩, h.sl.later h.hr.plain le (fun _ _ _ e => e), h.fl, h.wl, h.old⟩
  obtain ⟨ob, h1, h2⟩ := h.hr.obj i l e
  exact ⟨ob, h1, h2.later h.hr.plain le (fun a u _ q => upd_keep hp a u q)⟩
/-- a new object of the data at p -/
theorem le_new {p : Addr} {o : HO} (hp : H p = none) : Le ρ H (ρ ++ [.ob p]) (L2.upd H p o) := by
  have l := le_upd (ρ := ρ) (o := o) hp
  exact ⟨⟨[.ob p], rfl, fun a ha => by rw [show a = p by simpa using ha]; exact hp⟩, l.keep, l.there, l.cells, l.lams, l.codes⟩
theorem get_snoc {i : Nat} {a p : Loc} (h : (ρ ++ [p])[i]? = some a) : (ρ[i]? = some a) ∨ (i = ρ.length ∧ a = p) := by
  rcases Nat.lt_trichotomy i ρ.length with q | q | q
  · rw [List.getElem?_append_left q] at h; exact .inl h
  · subst q
    rw [List.getElem?_append_right (Nat.le_refl _)] at h
    simp at h
    exact .inr ⟨rfl, h.symm⟩
  · rw [List.getElem?_eq_none (by simp; omega)] at h; cases h
theorem st_new {p : Addr} {o : HO} {ob : DObj} (h : StRel G X n0 cs ρ dh fr σ H) (hp : H p = none)
    (hob : ObjRel G X n0 cs σ (ρ ++ [.ob p]) (L2.upd H p o) ρ.length (.ob p) ob) : StRel G X n0 cs (ρ ++ [.ob p]) (dh.new ob) fr σ (L2.upd H p o) := by
  have le : Le ρ H (ρ ++ [.ob p]) (L2.upd H p o) := le_new hp
  have hn : Loc.ob p ∉ ρ := fun z => (h.hr.plain p z).1.2 hp
  refine ⟨⟨?_, fun i j a e1 e2 => ?_, ?_, fun i l e => ?_, h.hr.tabs.ext (upd_keep hp)⟩, h.sl.later h.hr.plain le (fun c d hc e => by rw [get_new_ne _ _ (by rw [h.hr.len]; omega)] at e; exact e), h.fl, h.wl, fun i hi o e => by rw [get_new_ne _ _ (by have := h.hr.low; rw [h.hr.len]; omega)]; exact h.old i hi o e⟩
  · rw [new_n, h.hr.len]; simp
  · rcases get_snoc e1 with e1 | ⟨i1, a1⟩ <;> rcases get_snoc e2 with e2 | ⟨i2, a2⟩
    · exact h.hr.nd i j a e1 e2
    · rw [a2] at e1; exact absurd (List.mem_of_getElem? e1) hn
    · rw [a1] at e2; exact absurd (List.mem_of_getElem? e2) hn
    · rw [i1, i2]
  · have := h.hr.low
    simp; omega
  · rcases get_snoc e with e | ⟨e1, e2⟩
    · obtain ⟨u, h1, h2⟩ := h.hr.obj i l e
      have hi : i < ρ.length := (List.getElem?_eq_some_iff.mp e).1
      exact ⟨u, by rw [get_new_ne _ _ (by rw [h.hr.len]; omega)]; exact h1, h2.later h.hr.plain le (fun a u _ q => upd_keep hp a u q)⟩
    · subst e1; subst e2
      refine ⟨ob, ?_, hob⟩
      rw [← h.hr.len]
      exact get_new_same dh ob
theorem new_at (h : StRel G X n0 cs ρ dh fr σ H) (p : Addr) : RelD G (ρ ++ [.ob p]) H' (.ref dh.n) (.ref p) := rel_ref.mpr ⟨p, rfl, by rw [h.hr.len]; simp⟩
/-- what a reference stands for -/
theorem st_lst (h : StRel G X n0 cs ρ dh fr σ H) {i : Nat} {v : V} {xs : List DV} (r : RelD G ρ H (.ref i) v) (e : dh.get i = some (.lst xs)) : ∃ a vs, v = .ref a ∧ ρ[i]? = some (.ob a) ∧ H a = some (.lst vs) ∧ RelDs G ρ H xs vs := by
  obtain ⟨a, rfl, ea⟩ := rel_ref.mp r
  obtain ⟨o, h1, h2⟩ := h.hr.obj i _ ea
  rw [e] at h1; cases h1
  obtain ⟨a', vs, h0, h1, h2⟩ := h2
  cases h0
  exact ⟨a, vs, rfl, ea, h1, h2⟩
theorem st_dic (h : StRel G X n0 cs ρ dh fr σ H) {i : Nat} {v : V} {kvs : List DP} (r : RelD G ρ H (.ref i) v) (e : dh.get i = some (.dic kvs)) : ∃ a, v = .ref a ∧ ρ[i]? = some (.ob a) ∧ DicAt G ρ H a kvs := by
  obtain ⟨a, rfl, ea⟩ := rel_ref.mp r
  obtain ⟨o, h1, h2⟩ := h.hr.obj i _ ea
  rw [e] at h1; cases h1
  obtain ⟨a', h0, h1⟩ := h2
  cases h0
  exact ⟨a, rfl, ea, h1⟩
/-- a sequence: the items, what reads it -/
theorem st_seq (h : StRel G X n0 cs ρ dh fr σ H) {d : DV} {v : V} {xs : List DV} (r : RelD G ρ H d v) (e : seqOf d dh = some xs) : ∃ a vs, v = .ref a ∧ RelDs G ρ H xs vs ∧ ((∃ ys, d = .tup ys) ∧ H a = some (.tup vs) ∨ (∃ i, d = .ref i) ∧ H a = some (.lst vs)) := by
  cases d with
  | tup ys =>
    have e' : some ys = some xs := e
    cases e'
    obtain ⟨a, vs, h1, h2, h3⟩ := rel_tup.mp r
    exact ⟨a, vs, h1, h3, .inl ⟨⟨_, rfl⟩, h2⟩⟩
  | ref i =>
    have e' : obL none (dh.get i) some = some xs := e
    have e2 : dh.get i = some (.lst xs) := by
      cases q : dh.get i with
      | none => rw [q] at e'; cases e'
      | some o =>
        rw [q] at e'
        cases o with
        | lst ys => cases e'; rfl
        | _ => cases e'
    obtain ⟨a, vs, h1, _, h3, h4⟩ := st_lst h r e2
    exact ⟨a, vs, h1, h4, .inr ⟨⟨_, rfl⟩, h3⟩⟩
  | _ => cases e
end
end Dz

set_option Elab.async false
set_option linter.all false
set_option maxRecDepth 100000
set_option maxHeartbeats 2000000
/-! Dz: each combinator is what the model does: expressions. -/
namespace Dz
open PySem L2
/-- an exception, as the data tell it -/
def RelX (G : Gv) (ρ : List Loc) (H : Hp) (c : Nat) (fs : List DV) (cls : Value) (dx : Option Addr) : Prop :=
  cls = .ref (G.ca c) ∧ ((fs = [] ∧ dx = none) ∨ ∃ (dd : Addr) (vs : List V), dx = some dd ∧ H dd = some (.xd ((G.flds c).zip vs)) ∧ RelDs G ρ H fs vs ∧ fs.length = (G.flds c).length)
/-- a def's body (or a part of it) as it runs: what its names are, what is wished of exceptions -/
structure Sc where
  G : Gv
  X : Cx
  n0 : Ent
  cs : List Nat
  W : WX
  k : Nat
  hK : G.K = X.K
  hu : X.A.units + 200 < cLine
  hr : X.calm = true → Room k X.A
  hg : G.gd = true → X.A.guards = some []
  tk : L2.Takes X W
  hN : X.N.Nodup
  hfs : ∀ x a, X.env.cells.lookup x = some a → a ∉ X.fs
  hinj : ∀ x y c, X.env.cells.lookup x = some c → X.env.cells.lookup y = some c → x = y
  hw : G.w = X.w
theorem Sc.sq (C : Sc) {H : Hp} {a : Addr} {vs : List V} (h : H a = some (.tup vs)) : SqT C.X.K H a vs := SqT.of h
abbrev Sc.St (C : Sc) (ρ : List Loc) (dh : DH) (fr : Fr) (σ : L2.St) (H : Hp) : Prop := StRel C.G C.X C.n0 C.cs ρ dh fr σ H
def Sc.KO (C : Sc) (ρ : List Loc) (H : Hp) (fr : Fr) (σ : L2.St) (k : KV) (Q : VK) : Prop := ∀ ρ' dh' H' d v, C.St ρ' dh' fr σ H' → Le ρ H ρ' H' → RelD C.G ρ' H' d v → k d dh' = true → Q v H'
def Sc.KOs (C : Sc) (n : Nat) (ρ : List Loc) (H : Hp) (fr : Fr) (σ : L2.St) (k : KVs) (Q : List V → Hp → Prop) : Prop := ∀ ρ' dh' H' ds vs, C.St ρ' dh' fr σ H' → Le ρ H ρ' H' → RelDs C.G ρ' H' ds vs → ds.length = n → k ds dh' = true → Q vs H'
def Sc.KT (C : Sc) (ρ : List Loc) (H : Hp) (fr : Fr) (σ : L2.St) (k : Bool → DH → Bool) (Q : Bool → Hp → Prop) : Prop := ∀ ρ' dh' H' b, C.St ρ' dh' fr σ H' → Le ρ H ρ' H' → k b dh' = true → Q b H'
def Sc.XO (C : Sc) (ρ : List Loc) (H : Hp) (fr : Fr) (σ : L2.St) (kx : KX) : Prop := ∀ ρ' dh' H' c fs cls dx, C.St ρ' dh' fr σ H' → Le ρ H ρ' H' → RelX C.G ρ' H' c fs cls dx → kx c fs dh' = true → C.W cls dx σ H'
def Sc.E (C : Sc) (t : Ex) : TE := fun σ H Q => ∃ ρ dh fr kx k, C.St ρ dh fr σ H ∧ C.XO ρ H fr σ kx ∧ C.KO ρ H fr σ k Q ∧ t fr dh kx k = true
def Sc.Es (C : Sc) (n : Nat) (t : Exs) : TA := fun σ H Q => ∃ ρ dh fr kx k, C.St ρ dh fr σ H ∧ C.XO ρ H fr σ kx ∧ C.KOs n ρ H fr σ k Q ∧ t fr dh kx k = true
def Sc.T (C : Sc) (t : Tx) : TT := fun σ H Q => ∃ ρ dh fr kx k, C.St ρ dh fr σ H ∧ C.XO ρ H fr σ kx ∧ C.KT ρ H fr σ k Q ∧ t fr dh kx k = true
theorem pe_imp {X : Cx} {e : Expr} {t t' : TE} (h : PE X e t) (i : ∀ σ H Q, t' σ H Q → t σ H Q) : PE X e t' := ⟨fun pins s σ H Q I q => h.run pins s σ H Q I (i _ _ _ q)⟩
theorem pt_imp {X : Cx} {e : Expr} {t t' : TT} (h : PT X e t) (i : ∀ σ H Q, t' σ H Q → t σ H Q) : PT X e t' := ⟨fun pins s σ H Q I q => h.run pins s σ H Q I (i _ _ _ q)⟩
theorem pw_imp {X : Cx} {e : Expr} {t t' : TT} (h : PW X e t) (i : ∀ σ H Q, t' σ H Q → t σ H Q) : PW X e t' := ⟨fun wh pins s σ H Q I q => h.run wh pins s σ H Q I (i _ _ _ q)⟩
theorem pa_imp {X : Cx} {e : List Expr} {t t' : TA} (h : PA X e t) (i : ∀ σ H Q, t' σ H Q → t σ H Q) : PA X e t' := ⟨fun pos pins s σ H Q I q => h.run pos pins s σ H Q I (i _ _ _ q)⟩
section
variable {C : Sc} {ρ ρ' : List Loc} {dh dh' : DH} {fr : Fr} {σ : L2.St} {H H' : Hp} {kx : KX} {k : KV} {Q : VK} {e e2 : Expr} {es : List Expr} {a b c : Ex} {t u : Tx} {pos : Pos}
theorem Sc.KO.later (h : C.KO ρ H fr σ k Q) (le : Le ρ H ρ' H') : C.KO ρ' H' fr σ k Q := fun ρ2 dh2 H2 d v st l r q => h ρ2 dh2 H2 d v st (le.trans l) r q
theorem Sc.KOs.later {n : Nat} {k : KVs} {Q : List V → Hp → Prop} (h : C.KOs n ρ H fr σ k Q) (le : Le ρ H ρ' H') : C.KOs n ρ' H' fr σ k Q := fun ρ2 dh2 H2 d v st l r z q => h ρ2 dh2 H2 d v st (le.trans l) r z q
theorem Sc.KT.later {k : Bool → DH → Bool} {Q : Bool → Hp → Prop} (h : C.KT ρ H fr σ k Q) (le : Le ρ H ρ' H') : C.KT ρ' H' fr σ k Q := fun ρ2 dh2 H2 b st l q => h ρ2 dh2 H2 b st (le.trans l) q
theorem Sc.XO.later (h : C.XO ρ H fr σ kx) (le : Le ρ H ρ' H') : C.XO ρ' H' fr σ kx := fun ρ2 dh2 H2 c fs cls dx st l r q => h ρ2 dh2 H2 c fs cls dx st (le.trans l) r q
/-- the value is there, the heap as it was -/
theorem Sc.KO.now {d : DV} {v : V} (h : C.KO ρ H fr σ k Q) (st : C.St ρ dh fr σ H) (r : RelD C.G ρ H d v) (q : k d dh = true) : Q v H := h ρ dh H d v st (Le.refl ρ H) r q
/-- a new tuple -/
theorem Sc.KO.tup {xs : List DV} {vs : List V} (h : C.KO ρ H fr σ k Q) (st : C.St ρ dh fr σ H) (r : RelDs C.G ρ H xs vs) (q : k (.tup xs) dh = true) : ∀ p, H p = none → Q (.ref p) (L2.upd H p (.tup vs)) := fun p hp =>
  h ρ dh _ _ _ (st_upd st hp) (le_upd hp) (rel_tup.mpr ⟨p, vs, rfl, upd_same, RelDs.later st.hr.plain (le_upd hp) r⟩) q
/-- a new list -/
theorem Sc.KO.lst {xs : List DV} {vs : List V} (h : C.KO ρ H fr σ k Q) (st : C.St ρ dh fr σ H) (r : RelDs C.G ρ H xs vs) (q : k (.ref dh.n) (dh.new (.lst xs)) = true) : ∀ p, H p = none → Q (.ref p) (L2.upd H p (.lst vs)) := fun p hp =>
  h (ρ ++ [.ob p]) _ _ _ _ (st_new (ob := .lst xs) st hp (show ∃ a us, Loc.ob p = .ob a ∧ L2.upd H p (.lst vs) a = some (.lst us) ∧ RelDs C.G (ρ ++ [.ob p]) (L2.upd H p (.lst vs)) xs us from ⟨p, vs, rfl, upd_same, RelDs.later st.hr.plain (le_new hp) r⟩)) (le_new hp) (new_at st p) q
/-- two in a row -/
theorem E_then {f : DV → DH → Bool} {R : VK} (st : C.St ρ dh fr σ H) (xo : C.XO ρ H fr σ kx) (h : a fr dh kx f = true)
    (n : ∀ ρ' dh' H' d v, C.St ρ' dh' fr σ H' → Le ρ H ρ' H' → RelD C.G ρ' H' d v → f d dh' = true → R v H') : C.E a σ H R := ⟨ρ, dh, fr, kx, f, st, xo, n, h⟩
theorem Es_then {n : Nat} {a : Exs} {f : List DV → DH → Bool} {R : List V → Hp → Prop} (st : C.St ρ dh fr σ H) (xo : C.XO ρ H fr σ kx) (h : a fr dh kx f = true)
    (m : ∀ ρ' dh' H' d v, C.St ρ' dh' fr σ H' → Le ρ H ρ' H' → RelDs C.G ρ' H' d v → d.length = n → f d dh' = true → R v H') : C.Es n a σ H R := ⟨ρ, dh, fr, kx, f, st, xo, m, h⟩
theorem T_then {f : Bool → DH → Bool} {R : Bool → Hp → Prop} (st : C.St ρ dh fr σ H) (xo : C.XO ρ H fr σ kx) (h : t fr dh kx f = true)
    (n : ∀ ρ' dh' H' b, C.St ρ' dh' fr σ H' → Le ρ H ρ' H' → f b dh' = true → R b H') : C.T t σ H R := ⟨ρ, dh, fr, kx, f, st, xo, n, h⟩
/-! ### names, constants -/
theorem se_var {i : Nat} {x : Str} (hN : C.X.N[i]? = some x) (hv : Vis C.X.env.scope x) (hc : i ∉ C.cs) (hd : (x == ("__debug__" : Str)) = false) (hcd : (x == ("__classdict__" : Str)) = false) : PE C.X (.Name x pos) (C.E (cVar i)) := by
  refine pe_imp (pe_var hN hv hd hcd) fun σ H Q ⟨ρ, dh, fr, kx, k, st, xo, ko, h⟩ => ?_
  obtain ⟨d, e, h⟩ := slot_of h
  rcases st.sl i d e with ⟨_, v, e1, r⟩ | ⟨z, _⟩
  · exact ⟨v, e1, ko.now st r h⟩
  · exact absurd z hc
theorem se_cell {i : Nat} {x : Str} (hN : C.X.N[i]? = some x) (hv : Vis C.X.env.scope x) (hc : i ∈ C.cs) (hd : (x == ("__debug__" : Str)) = false) (hcd : (x == ("__classdict__" : Str)) = false) : PE C.X (.Name x pos) (C.E (cCell i)) := by
  refine pe_imp (pe_var hN hv hd hcd) fun σ H Q ⟨ρ, dh, fr, kx, k, st, xo, ko, h⟩ => ?_
  obtain ⟨d, e, h⟩ := slot_of h
  obtain ⟨c, rfl, h⟩ := onR_of h
  obtain ⟨o, e2, h⟩ := obC_of h
  obtain ⟨d', rfl, h⟩ := onO_some h
  rcases st.sl i _ e with ⟨z, _⟩ | ⟨_, c', a, y, e3, _, _, _, _, _, h6⟩
  · exact absurd hc z
  · cases e3
    obtain ⟨v, e4, r⟩ := h6 d' e2
    exact ⟨v, e4, ko.now st r h⟩
theorem se_int {i : Int} {j : Nat} : PE C.X (.Constant (.int i) j pos) (C.E (cCst (.int i))) := pe_imp pe_int fun σ H Q ⟨ρ, dh, fr, kx, k, st, xo, ko, h⟩ => ko.now st (rel_int.mpr rfl) h
theorem se_bl {i : Bool} {j : Nat} : PE C.X (.Constant (.bool i) j pos) (C.E (cCst (.bl i))) := pe_imp pe_bl fun σ H Q ⟨ρ, dh, fr, kx, k, st, xo, ko, h⟩ => ko.now st (rel_bl.mpr rfl) h
theorem se_non {j : Nat} : PE C.X (.Constant .none j pos) (C.E (cCst .non)) := pe_imp pe_non fun σ H Q ⟨ρ, dh, fr, kx, k, st, xo, ko, h⟩ => ko.now st (rel_non.mpr rfl) h
theorem se_str {x : Str} {j : Nat} : PE C.X (.Constant (.str x) j pos) (C.E (cCst (.str x.cps.toList))) := pe_imp pe_str fun σ H Q ⟨ρ, dh, fr, kx, k, st, xo, ko, h⟩ => ko.now st (rel_str.mpr (by simp)) h
/-! ### lists of expressions -/
theorem ss_nil : PA C.X [] (C.Es 0 cNil) := pa_imp pa_nil fun σ H Q ⟨ρ, dh, fr, kx, k, st, xo, ko, h⟩ => ko ρ dh H [] [] st (Le.refl ρ H) (rels_nil.mpr rfl) rfl h
theorem ss_cons {n : Nat} {es' : Exs} (he : PE C.X e (C.E a)) (hs : PA C.X es (C.Es n es')) (hn : starEach (e :: es) C.X.env = (false, eval e C.X.env) :: starEach es C.X.env) : PA C.X (e :: es) (C.Es (n + 1) (cCons a es')) := by
  refine pa_imp (pa_cons he hs hn) fun σ H Q ⟨ρ, dh, fr, kx, k, st, xo, ko, h⟩ => ?_
  refine E_then st xo h fun ρ1 dh1 H1 d v st1 le1 r1 h1 => ?_
  refine Es_then st1 (xo.later le1) h1 fun ρ2 dh2 H2 ds vs st2 le2 r2 z2 h2 => ?_
  exact ko ρ2 dh2 H2 (d :: ds) (v :: vs) st2 (le1.trans le2) (rels_cons.mpr ⟨v, vs, rfl, RelD.later st1.hr.plain le2 r1, r2⟩) (by simp [z2]) h2
theorem se_tup {n : Nat} {es' : Exs} {j : Nat} (hs : PA C.X es (C.Es n es')) (hz : n ≤ sizeLine) : PE C.X (.Tuple es j pos) (C.E (cTup es')) := by
  refine pe_imp (pe_tup hs) fun σ H Q ⟨ρ, dh, fr, kx, k, st, xo, ko, h⟩ => ?_
  refine Es_then st xo h fun ρ1 dh1 H1 ds vs st1 le1 r1 z1 h1 => ?_
  exact ⟨by rw [← rels_length r1, z1]; exact hz, (ko.later le1).tup st1 r1 h1⟩
theorem se_lst {n : Nat} {es' : Exs} (hs : PA C.X es (C.Es n es')) (hz : n ≤ sizeLine) : PE C.X (.List es pos) (C.E (cLst es')) := by
  refine pe_imp (pe_lst hs) fun σ H Q ⟨ρ, dh, fr, kx, k, st, xo, ko, h⟩ => ?_
  refine Es_then st xo h fun ρ1 dh1 H1 ds vs st1 le1 r1 z1 h1 => ?_
  exact ⟨by rw [← rels_length r1, z1]; exact hz, (ko.later le1).lst st1 r1 h1⟩
end
end Dz

set_option Elab.async false
set_option linter.all false
set_option maxRecDepth 100000
set_option maxHeartbeats 2000000
/-! Dz: operators. -/
namespace Dz
open PySem L2
/-- what an operation on two values is, by the data -/
def BinOk (X : Cx) (o : Value → Value → Sem Value) (f : DV → DV → DH → RH) : Prop := ∃ r : R2, OpR X o r ∧
  ∀ (C : Sc) (ρ : List Loc) (dh : DH) (fr : Fr) (σ : L2.St) (H : Hp) (x y : DV) (v w : V) (k : KV) (Q : VK), C.X = X → C.St ρ dh fr σ H → RelD C.G ρ H x v → RelD C.G ρ H y w → C.KO ρ H fr σ k Q → kh (f x y dh) k = true → r v w H Q
def BinOk0 (X : Cx) (o : Value → Value → Sem Value) (f : DV → DV → Option DV) : Prop := ∃ r : R2, OpR X o r ∧
  ∀ (C : Sc) (ρ : List Loc) (dh : DH) (fr : Fr) (σ : L2.St) (H : Hp) (x y : DV) (v w : V) (k : KV) (Q : VK), C.X = X → C.St ρ dh fr σ H → RelD C.G ρ H x v → RelD C.G ρ H y w → C.KO ρ H fr σ k Q → ko (f x y) dh k = true → r v w H Q
section
variable {C : Sc} {ρ ρ' : List Loc} {dh dh' : DH} {fr : Fr} {σ : L2.St} {H H' : Hp} {kx : KX} {k : KV} {Q : VK} {e e2 : Expr} {es : List Expr} {a b c : Ex} {t u : Tx} {pos : Pos}
theorem se_bin {op : Operator} {f : DV → DV → DH → RH} (ho : BinOk C.X (binaryOp op) f) (ha : PE C.X e (C.E a)) (hb : PE C.X e2 (C.E b)) : PE C.X (.BinOp e op e2 pos) (C.E (cBin f a b)) := by
  obtain ⟨r, h1, h2⟩ := ho
  refine pe_imp (pe_op h1 ha hb) fun σ H Q ⟨ρ, dh, fr, kx, k, st, xo, ko, h⟩ => ?_
  refine E_then st xo h fun ρ1 dh1 H1 d v st1 le1 r1 h3 => ?_
  refine E_then st1 (xo.later le1) h3 fun ρ2 dh2 H2 d2 v2 st2 le2 r2 h4 => ?_
  exact h2 C ρ2 dh2 fr σ H2 d d2 v v2 k Q rfl st2 (RelD.later st1.hr.plain le2 r1) r2 (ko.later (le1.trans le2)) h4
theorem se_bin0 {op : Operator} {f : DV → DV → Option DV} (ho : BinOk0 C.X (binaryOp op) f) (ha : PE C.X e (C.E a)) (hb : PE C.X e2 (C.E b)) : PE C.X (.BinOp e op e2 pos) (C.E (cBin0 f a b)) := by
  obtain ⟨r, h1, h2⟩ := ho
  refine pe_imp (pe_op h1 ha hb) fun σ H Q ⟨ρ, dh, fr, kx, k, st, xo, ko, h⟩ => ?_
  refine E_then st xo h fun ρ1 dh1 H1 d v st1 le1 r1 h3 => ?_
  refine E_then st1 (xo.later le1) h3 fun ρ2 dh2 H2 d2 v2 st2 le2 r2 h4 => ?_
  exact h2 C ρ2 dh2 fr σ H2 d d2 v v2 k Q rfl st2 (RelD.later st1.hr.plain le2 r1) r2 (ko.later (le1.trans le2)) h4
end
theorem onI_h {x : DV} {f : Int → RH} {k : KV} (h : kh (onI none x f) k = true) : ∃ i, x = .int i ∧ kh (f i) k = true := by
  cases x <;> first | exact ⟨_, rfl, h⟩ | cases h
theorem onS_h {x : DV} {f : List Nat → RH} {k : KV} (h : kh (onS none x f) k = true) : ∃ i, x = .str i ∧ kh (f i) k = true := by
  cases x <;> first | exact ⟨_, rfl, h⟩ | cases h
theorem onT_h {x : DV} {f : List DV → RH} {k : KV} (h : kh (onT none x f) k = true) : ∃ i, x = .tup i ∧ kh (f i) k = true := by
  cases x <;> first | exact ⟨_, rfl, h⟩ | cases h
theorem onR_h {x : DV} {f : Nat → RH} {k : KV} (h : kh (onR none x f) k = true) : ∃ i, x = .ref i ∧ kh (f i) k = true := by
  cases x <;> first | exact ⟨_, rfl, h⟩ | cases h
theorem obL_h {o : Option DObj} {f : List DV → RH} {k : KV} (h : kh (obL none o f) k = true) : ∃ xs, o = some (.lst xs) ∧ kh (f xs) k = true := by
  cases o with
  | none => cases h
  | some o => cases o <;> first | exact ⟨_, rfl, h⟩ | cases h
theorem obD_h {o : Option DObj} {f : List DP → RH} {k : KV} (h : kh (obD none o f) k = true) : ∃ xs, o = some (.dic xs) ∧ kh (f xs) k = true := by
  cases o with
  | none => cases h
  | some o => cases o <;> first | exact ⟨_, rfl, h⟩ | cases h
theorem onO_h {α : Type} {o : Option α} {f : α → RH} {k : KV} (h : kh (onO none o f) k = true) : ∃ a, o = some a ∧ kh (f a) k = true := by
  cases o with
  | none => cases h
  | some a => exact ⟨a, rfl, h⟩
theorem cnd_h {c : Bool} {r : RH} {k : KV} (h : kh (cnd c r none) k = true) : c = true ∧ kh r k = true := by
  cases c
  · cases h
  · exact ⟨rfl, h⟩
theorem fits_le {n : Nat} (h : fits n = true) : n ≤ sizeLine := Nat.le_of_ble_eq_true h
theorem both_le {xs ys : List DV} (h : both xs ys = true) : xs.length + ys.length ≤ sizeLine := by
  have := fits_le h
  rw [lenN_eq, lenN_eq] at this
  exact this
theorem repl_eq {α : Type} (xs : List α) : ∀ n, repl n xs = (List.replicate n xs).flatten
  | 0 => rfl
  | n + 1 => by
    show app xs (repl n xs) = _
    rw [app_eq, repl_eq xs n, List.replicate_succ, List.flatten_cons]
theorem rels_repl {G : Gv} {ρ : List Loc} {H : Hp} {xs : List DV} {vs : List V} (r : RelDs G ρ H xs vs) : ∀ n, RelDs G ρ H (List.replicate n xs).flatten (List.replicate n vs).flatten
  | 0 => rels_nil.mpr rfl
  | n + 1 => by
    rw [List.replicate_succ, List.flatten_cons, List.replicate_succ, List.flatten_cons]
    exact rels_app r (rels_repl r n)
theorem rels_none_iff {G : Gv} {ρ : List Loc} {H : Hp} {xs : List DV} {vs : List V} (r : RelDs G ρ H xs vs) : vs = [] ↔ xs = [] := by
  have := rels_length r
  constructor
  · intro h; subst h; exact List.length_eq_zero_iff.mp this
  · intro h; subst h; exact List.length_eq_zero_iff.mp this.symm
/-- a tuple anew or one that is there: the same to the data -/
theorem ok_add {X : Cx} : BinOk X (binaryOp .Add) opAdd := by
  refine ⟨_, op_add.or (op_catA.or (op_cat.or op_add_str)), fun C ρ dh fr σ H x y v w k Q hX st rx ry ko h => ?_⟩
  subst hX
  cases x with
  | int i =>
    obtain ⟨j, rfl, h⟩ := onI_h h
    rw [rel_int] at rx ry
    exact .inl ⟨i, j, rx, ry, ko.now st (rel_int.mpr rfl) h⟩
  | str i =>
    obtain ⟨j, rfl, h⟩ := onS_h h
    obtain ⟨f, h⟩ := cnd_h h
    rw [rel_str] at rx ry
    refine .inr (.inr (.inr ⟨_, _, rx, ry, ?_, ko.now st (rel_str.mpr ?_) h⟩))
    · have := fits_le f
      rw [lenN_eq, lenN_eq] at this
      exact this
    · rw [app_eq]
      show V.str (⟨i.toArray ++ j.toArray⟩) = _
      simp
  | tup xs =>
    obtain ⟨ys, rfl, h⟩ := onT_h h
    obtain ⟨f, h⟩ := cnd_h h
    rw [app_eq] at h
    obtain ⟨p, vs, rfl, s1, r1⟩ := rel_tup.mp rx
    obtain ⟨q, us, rfl, s2, r2⟩ := rel_tup.mp ry
    refine .inr (.inl ⟨p, q, vs, us, rfl, rfl, C.sq s1, C.sq s2, ?_, fun e => ?_, fun _ e => ?_, fun _ _ p hp => ?_⟩)
    · rw [← rels_length r1, ← rels_length r2]; exact both_le f
    · rw [rels_none_iff r1] at e; subst e; exact ko.now st ry h
    · rw [rels_none_iff r2] at e; subst e
      rw [List.append_nil] at h; exact ko.now st rx h
    · exact ko.tup st (rels_app r1 r2) h p hp
  | ref i =>
    obtain ⟨j, rfl, h⟩ := onR_h h
    obtain ⟨xs, e1, h⟩ := obL_h h
    obtain ⟨ys, e2, h⟩ := obL_h h
    obtain ⟨f, h⟩ := cnd_h h
    rw [app_eq] at h
    obtain ⟨a, vs, rfl, _, h3, r1⟩ := st_lst st rx e1
    obtain ⟨b, us, rfl, _, h4, r2⟩ := st_lst st ry e2
    refine .inr (.inr (.inl ⟨a, b, vs, us, rfl, rfl, h3, h4, ?_, ko.lst st (rels_app r1 r2) h⟩))
    rw [← rels_length r1, ← rels_length r2]; exact both_le f
  | _ => cases h
theorem ok_mul {X : Cx} : BinOk X (binaryOp .Mult) opMul := by
  refine ⟨_, op_mulW.or (op_repT.or op_rep), fun C ρ dh fr σ H x y v w k Q hX st rx ry ko h => ?_⟩
  subst hX
  obtain ⟨n, rfl, h⟩ := onI_h h
  rw [rel_int] at ry
  cases x with
  | int i =>
    obtain ⟨f, h⟩ := cnd_h h
    rw [rel_int] at rx
    have f := Nat.le_of_ble_eq_true f
    exact .inl ⟨i, n, rx, ry, (show i.natAbs.log2 + n.natAbs.log2 < 1000000 from Nat.lt_succ_of_le f), ko.now st (rel_int.mpr rfl) h⟩
  | tup xs =>
    obtain ⟨f1, h⟩ := cnd_h h
    obtain ⟨f2, h⟩ := cnd_h h
    obtain ⟨f3, h⟩ := cnd_h h
    have f1 := Nat.le_of_ble_eq_true f1
    have f2 := Nat.le_of_ble_eq_true f2
    have f3 := Nat.le_of_ble_eq_true f3
    rw [lenN_eq] at f3
    obtain ⟨p, vs, rfl, s1, r1⟩ := rel_tup.mp rx
    cases xs with
    | nil => cases h
    | cons x0 xs =>
      rw [show nilB (x0 :: xs) = false from rfl, cnd_false, repl_eq] at h
      refine .inr (.inl ⟨p, n, vs, rfl, ry, C.sq s1, fun e => ?_, by omega, by omega, by rw [← rels_length r1]; exact f3, ko.tup st (rels_repl r1 _) h⟩)
      rw [rels_none_iff r1] at e; cases e
  | ref i =>
    obtain ⟨xs, e1, h⟩ := obL_h h
    obtain ⟨f1, h⟩ := cnd_h h
    obtain ⟨f2, h⟩ := cnd_h h
    have f1 := Nat.le_of_ble_eq_true f1
    have f2 := fits_le f2
    rw [lenN_eq] at f2
    rw [repl_eq] at h
    obtain ⟨a, vs, rfl, _, h3, r1⟩ := st_lst st rx e1
    exact .inr (.inr ⟨a, n, vs, rfl, ry, h3, by omega, by omega, by rw [← rels_length r1]; exact f2, ko.lst st (rels_repl r1 _) h⟩)
  | _ => cases h
/-! ### ints -/
theorem opInt_of {f : Int → Int → Option DV} {x y : DV} {h : DH} {k : KV} (e : ko (opInt f x y) h k = true) : ∃ i j, x = .int i ∧ y = .int j ∧ ko (f i j) h k = true := by
  unfold opInt at e
  cases x with
  | int i => cases y with
    | int j => exact ⟨i, j, rfl, rfl, e⟩
    | _ => cases e
  | _ => cases e
theorem cnd_o {c : Bool} {o : Option DV} {h : DH} {k : KV} (e : ko (cnd c o none) h k = true) : c = true ∧ ko o h k = true := by
  cases c
  · cases e
  · exact ⟨rfl, e⟩
theorem cnd_o' {c : Bool} {o : Option DV} {h : DH} {k : KV} (e : ko (cnd c none o) h k = true) : c = false ∧ ko o h k = true := by
  cases c
  · exact ⟨rfl, e⟩
  · cases e
theorem intLt_iff (a b : Int) : intLt a b = decide (a < b) := by
  cases a with
  | ofNat m =>
    cases b with
    | ofNat n =>
      show Nat.ble (m + 1) n = _
      rw [Bool.eq_iff_iff, Nat.ble_eq, decide_eq_true_iff]
      constructor
      · intro h; exact Int.ofNat_lt.mpr h
      · intro h; exact Int.ofNat_lt.mp h
    | negSucc n =>
      show false = _
      rw [eq_comm, decide_eq_false_iff_not]
      simp only [Int.ofNat_eq_natCast]; omega
  | negSucc m =>
    cases b with
    | ofNat n =>
      show true = _
      rw [eq_comm, decide_eq_true_iff]
      simp only [Int.ofNat_eq_natCast]; omega
    | negSucc n =>
      show Nat.ble (n + 1) m = _
      rw [Bool.eq_iff_iff, Nat.ble_eq, decide_eq_true_iff]
      omega
theorem intEq_iff (a b : Int) : intEq a b = decide (a = b) := by
  cases a with
  | ofNat m =>
    cases b with
    | ofNat n =>
      show Nat.beq m n = _
      rw [Bool.eq_iff_iff, Nat.beq_eq, decide_eq_true_iff]
      simp only [Int.ofNat_eq_natCast]; omega
    | negSucc n =>
      show false = _
      rw [eq_comm, decide_eq_false_iff_not]
      simp only [Int.ofNat_eq_natCast]; omega
  | negSucc m =>
    cases b with
    | ofNat n =>
      show false = _
      rw [eq_comm, decide_eq_false_iff_not]
      simp only [Int.ofNat_eq_natCast]; omega
    | negSucc n =>
      show Nat.beq m n = _
      rw [Bool.eq_iff_iff, Nat.beq_eq, decide_eq_true_iff]
      omega
theorem ok_sub {X : Cx} : BinOk0 X (binaryOp .Sub) (opInt subI) := by
  refine ⟨_, op_sub, fun C ρ dh fr σ H x y v w k Q hX st rx ry ko h => ?_⟩
  obtain ⟨i, j, rfl, rfl, h⟩ := opInt_of h
  rw [rel_int] at rx ry
  exact ⟨i, j, rx, ry, ko.now st (rel_int.mpr rfl) h⟩
theorem ok_fdiv {X : Cx} : BinOk0 X (binaryOp .FloorDiv) (opInt fdivI) := by
  refine ⟨_, op_fdivW, fun C ρ dh fr σ H x y v w k Q hX st rx ry ko h => ?_⟩
  obtain ⟨i, j, rfl, rfl, h⟩ := opInt_of h
  obtain ⟨f1, h⟩ := cnd_o h
  obtain ⟨f2, h⟩ := cnd_o h
  rw [intLt_iff, decide_eq_true_iff] at f1
  rw [rel_int] at rx ry
  exact ⟨i, j, rx, ry, ⟨f1, Nat.lt_succ_of_le (Nat.le_of_ble_eq_true f2)⟩, ko.now st (rel_int.mpr rfl) h⟩
theorem ok_mod {X : Cx} : BinOk0 X (binaryOp .Mod) (opInt modI) := by
  refine ⟨_, op_mod, fun C ρ dh fr σ H x y v w k Q hX st rx ry ko h => ?_⟩
  obtain ⟨i, j, rfl, rfl, h⟩ := opInt_of h
  obtain ⟨f1, h⟩ := cnd_o h
  rw [intLt_iff, decide_eq_true_iff] at f1
  rw [rel_int] at rx ry
  exact ⟨i, j, rx, ry, f1, ko.now st (rel_int.mpr rfl) h⟩
theorem ok_pow {X : Cx} : BinOk0 X (binaryOp .Pow) (opInt powI) := by
  refine ⟨_, op_pow, fun C ρ dh fr σ H x y v w k Q hX st rx ry ko h => ?_⟩
  obtain ⟨i, j, rfl, rfl, h⟩ := opInt_of h
  obtain ⟨f1, h⟩ := cnd_o' h
  obtain ⟨f2, h⟩ := cnd_o h
  obtain ⟨f3, h⟩ := cnd_o h
  rw [intLt_iff, decide_eq_false_iff_not] at f1
  have f2 := Nat.le_of_ble_eq_true f2
  have f3 := Nat.le_of_ble_eq_true f3
  rw [rel_int] at rx ry
  exact ⟨i, j, rx, ry, ⟨by omega, by omega, by omega⟩, ko.now st (rel_int.mpr rfl) h⟩
section
variable {C : Sc} {e : Expr} {a : Ex} {pos : Pos}
theorem se_neg (ha : PE C.X e (C.E a)) : PE C.X (.UnaryOp .USub e pos) (C.E (cNeg a)) := by
  refine pe_imp (pe_un un_neg ha) fun σ H Q ⟨ρ, dh, fr, kx, k, st, xo, ko, h⟩ => ?_
  refine E_then st xo h fun ρ1 dh1 H1 d v st1 le1 r1 h1 => ?_
  obtain ⟨i, rfl, h1⟩ := onI_of h1
  rw [rel_int] at r1
  exact ⟨i, r1, (ko.later le1).now st1 (rel_int.mpr rfl) h1⟩
end
end Dz

set_option Elab.async false
set_option linter.all false
set_option maxRecDepth 100000
set_option maxHeartbeats 2000000
/-! Dz: == and < of data. -/
namespace Dz
open PySem L2
noncomputable def pyOf (h : DH) : Nat → DV → PyData
  | 0, _ => .none
  | _ + 1, .non => .none
  | _ + 1, .bl b => .bool b
  | _ + 1, .int i => .int i
  | _ + 1, .str x => .str ⟨x.toArray⟩
  | n + 1, .tup xs => .tuple (xs.map (pyOf h n))
  | n + 1, .ref i => match h.get i with
    | some (.lst xs) => .list (xs.map (pyOf h n))
    | _ => .none
  | _ + 1, _ => .none
theorem isData_succ (h : DH) (n : Nat) (x : DV) : isData h (n + 1) x = dataStep h (isData h n) x := rfl
theorem allL_eq {α : Type} (p : α → Bool) : ∀ xs : List α, allL p xs = xs.all p
  | [] => rfl
  | a :: r => by
    show cnd (p a) (allL p r) false = _
    rw [allL_eq p r, List.all_cons]
    cases p a <;> rfl
theorem obL_true {o : Option DObj} {f : List DV → Bool} (h : obL false o f = true) : ∃ xs, o = some (.lst xs) ∧ f xs = true := by
  cases o with
  | none => cases h
  | some o => cases o <;> first | exact ⟨_, rfl, h⟩ | cases h
theorem data_ref {h : DH} {n i : Nat} (e : isData h (n + 1) (.ref i) = true) : ∃ xs, h.get i = some (.lst xs) ∧ (∀ x ∈ xs, isData h n x = true) ∧ pyOf h (n + 1) (.ref i) = .list (xs.map (pyOf h n)) := by
  obtain ⟨xs, e1, e2⟩ := obL_true (show obL false (h.get i) (allL (isData h n)) = true from e)
  rw [allL_eq, List.all_eq_true] at e2
  refine ⟨xs, e1, e2, ?_⟩
  show (match h.get i with | some (.lst xs) => PyData.list (xs.map (pyOf h n)) | _ => .none) = _
  rw [e1]
theorem data_tup {h : DH} {n : Nat} {xs : List DV} (e : isData h (n + 1) (.tup xs) = true) : ∀ x ∈ xs, isData h n x = true := by
  have e2 : allL (isData h n) xs = true := e
  rw [allL_eq, List.all_eq_true] at e2
  exact e2
theorem canLayAll_map {h : DH} {n : Nat} (ih : ∀ x, isData h n x = true → PyData.canLay0 (pyOf h n x) = true) : ∀ {xs : List DV}, (∀ x ∈ xs, isData h n x = true) → PyData.canLayAll0 (xs.map (pyOf h n)) = true
  | [], _ => by simp [PyData.canLayAll0]
  | x :: xs, e => by
    rw [List.map_cons, PyData.canLayAll0, ih x (e x (.head _)), canLayAll_map ih fun y hy => e y (.tail _ hy)]
    rfl
theorem depthAll_map {h : DH} {n : Nat} (ih : ∀ x, PyData.depth (pyOf h n x) ≤ n) : ∀ {xs : List DV}, PyData.depthAll (xs.map (pyOf h n)) ≤ n
  | [] => by simp [PyData.depthAll]
  | x :: xs => by
    rw [List.map_cons, PyData.depthAll]
    exact Nat.max_le.mpr ⟨ih x, depthAll_map ih⟩
theorem py_lay {h : DH} : ∀ (n : Nat) (x : DV), isData h n x = true → PyData.canLay0 (pyOf h n x) = true
  | 0, _, e => by cases e
  | n + 1, x, e => by
    cases x with
    | str s =>
      show PyData.canLay0 (.str ⟨s.toArray⟩) = true
      rw [PyData.canLay0]
      show (s.toArray).all (· < 0x110000) = true
      have e2 : allL (fun c => Nat.ble (Nat.succ c) 1114112) s = true := e
      rw [allL_eq, List.all_eq_true] at e2
      rw [List.all_toArray, List.all_eq_true]
      intro c hc
      exact decide_eq_true (Nat.le_of_ble_eq_true (e2 c hc))
    | tup xs =>
      show PyData.canLay0 (.tuple (xs.map (pyOf h n))) = true
      rw [PyData.canLay0]
      exact canLayAll_map (py_lay n) (data_tup e)
    | ref i =>
      obtain ⟨xs, _, e2, e3⟩ := data_ref e
      rw [e3, PyData.canLay0]
      exact canLayAll_map (py_lay n) e2
    | fn _ _ => cases e
    | exn _ _ => cases e
    | cl _ => cases e
    | non => simp [pyOf, PyData.canLay0]
    | bl b => simp [pyOf, PyData.canLay0]
    | int i => simp [pyOf, PyData.canLay0]
theorem py_depth {h : DH} : ∀ (n : Nat) (x : DV), PyData.depth (pyOf h n x) ≤ n
  | 0, x => by simp [pyOf, PyData.depth]
  | n + 1, x => by
    cases x with
    | tup xs =>
      show PyData.depth (.tuple (xs.map (pyOf h n))) ≤ n + 1
      rw [PyData.depth]
      exact Nat.succ_le_succ (depthAll_map (py_depth n))
    | ref i =>
      show PyData.depth (match h.get i with | some (.lst xs) => PyData.list (xs.map (pyOf h n)) | _ => .none) ≤ n + 1
      cases h.get i with
      | none => simp [PyData.depth]
      | some o =>
        cases o with
        | lst xs =>
          show PyData.depth (PyData.list (xs.map (pyOf h n))) ≤ n + 1
          rw [PyData.depth]
          exact Nat.succ_le_succ (depthAll_map (py_depth n))
        | _ => simp [PyData.depth]
    | _ => simp [pyOf, PyData.depth]
theorem py_shaped {h : DH} {x : DV} (e : isData h eqF x = true) : SeqAt.shaped (pyOf h eqF x) = true := by
  unfold SeqAt.shaped
  rw [py_lay eqF x e, Bool.true_and, decide_eq_true_iff]
  exact Nat.le_trans (py_depth eqF x) (by decide)
section
variable {C : Sc} {ρ : List Loc} {dh : DH} {fr : Fr} {σ : L2.St} {H : Hp}
theorem dps_of (st : C.St ρ dh fr σ H) {n : Nat} (ih : ∀ x v, isData dh n x = true → RelD C.G ρ H x v → Dp C.X.K H v (pyOf dh n x)) : ∀ {xs : List DV} {vs : List V}, (∀ x ∈ xs, isData dh n x = true) → RelDs C.G ρ H xs vs → DpAll C.X.K H vs (xs.map (pyOf dh n))
  | [], vs, _, r => by rw [rels_nil] at r; subst r; exact .nil
  | x :: xs, vs, e, r => by
    obtain ⟨v, us, rfl, r1, r2⟩ := rels_cons.mp r
    exact .cons (ih x v (e x (.head _)) r1) (dps_of st ih (fun y hy => e y (.tail _ hy)) r2)
theorem dp_of (st : C.St ρ dh fr σ H) : ∀ (n : Nat) (x : DV) (v : V), isData dh n x = true → RelD C.G ρ H x v → Dp C.X.K H v (pyOf dh n x)
  | 0, _, _, e, _ => by cases e
  | n + 1, x, v, e, r => by
    cases x with
    | non => rw [rel_non] at r; subst r; exact .non
    | bl b => rw [rel_bl] at r; subst r; exact .bl b
    | int i => rw [rel_int] at r; subst r; exact .int i
    | str s => rw [rel_str] at r; subst r; exact .str _
    | tup xs =>
      obtain ⟨a, vs, rfl, s, r2⟩ := rel_tup.mp r
      exact .tup (C.sq s) (dps_of st (dp_of st n) (data_tup e) r2)
    | ref i =>
      obtain ⟨xs, e1, e2, e3⟩ := data_ref e
      obtain ⟨a, vs, rfl, _, h3, r2⟩ := st_lst st r e1
      rw [e3]
      exact .lst (.inl (.inl h3)) (dps_of st (dp_of st n) e2 r2)
    | fn _ _ => cases e
    | exn _ _ => cases e
    | cl _ => cases e
end
/-! ### == -/
theorem eqD_succ (h : DH) (n : Nat) (x y : DV) : eqD h (n + 1) x y = eqStep h (eqs (eqD h n)) x y := rfl
theorem natsEq_iff : ∀ xs ys : List Nat, natsEq xs ys = decide (xs = ys)
  | [], [] => rfl
  | [], _ :: _ => rfl
  | _ :: _, [] => rfl
  | a :: xs, b :: ys => by
    show cnd (Nat.beq a b) (natsEq xs ys) false = _
    rw [natsEq_iff xs ys, Bool.eq_iff_iff, decide_eq_true_iff]
    by_cases e : a = b
    · subst e; rw [Nat.beq_refl, cnd_true, decide_eq_true_iff]; simp
    · rw [beq_f e, cnd_false]; simp [e]
theorem eqs_of {h : DH} {n : Nat} (ih : ∀ x y, isData h n x = true → isData h n y = true → eqD h n x y = ofB (PyData.eqv (pyOf h n x) (pyOf h n y))) : ∀ {xs ys : List DV}, (∀ x ∈ xs, isData h n x = true) → (∀ x ∈ ys, isData h n x = true) → eqs (eqD h n) xs ys = ofB (PyData.eqvAll (xs.map (pyOf h n)) (ys.map (pyOf h n)))
  | [], [], _, _ => by rw [List.map_nil, PyData.eqvAll]; rfl
  | [], _ :: _, _, _ => by rw [List.map_nil, List.map_cons, PyData.eqvAll]; rfl
  | _ :: _, [], _, _ => by rw [List.map_nil, List.map_cons, PyData.eqvAll]; rfl
  | x :: xs, y :: ys, e1, e2 => by
    show on3 (eqD h n x y) .no (eqs (eqD h n) xs ys) .un = _
    rw [ih x y (e1 x (.head _)) (e2 y (.head _)), eqs_of ih (fun z hz => e1 z (.tail _ hz)) (fun z hz => e2 z (.tail _ hz)), List.map_cons, List.map_cons, PyData.eqvAll]
    cases PyData.eqv (pyOf h n x) (pyOf h n y) <;> rfl
theorem ofB_f : ofB false = .no := rfl
theorem ofB_t : ofB true = .yes := rfl
theorem str_eq (a b : List Nat) : ((⟨a.toArray⟩ : Str) == ⟨b.toArray⟩) = decide (a = b) := by
  rw [Bool.eq_iff_iff, beq_iff_eq, decide_eq_true_iff]
  constructor
  · intro h
    have := congrArg (fun s : Str => s.cps.toList) h
    simpa using this
  · intro h; rw [h]
theorem kind_ref {h : DH} {i : Nat} {xs : List DV} (e : h.get i = some (.lst xs)) : kindOf h (.ref i) = 4 := by
  show obL (obD 9 (h.get i) fun _ => 4) (h.get i) (fun _ => 4) = 4
  rw [e]; rfl
theorem unlike_no {h : DH} {x y : DV} (hx : kindOf h x ≠ 9) (hy : kindOf h y ≠ 9) (hn : kindOf h x ≠ kindOf h y) : unlike h x y = .no := by
  unfold unlike
  rw [beq_f hx, cnd_false, beq_f hy, cnd_false, beq_f hn, cnd_false]
theorem eq_of : ∀ {h : DH} (n : Nat) (x y : DV), isData h n x = true → isData h n y = true → eqD h n x y = ofB (PyData.eqv (pyOf h n x) (pyOf h n y))
  | _, 0, _, _, e, _ => by cases e
  | h, n + 1, x, y, e1, e2 => by
    rw [eqD_succ]
    cases x with
    | fn _ _ => cases e1
    | exn _ _ => cases e1
    | cl _ => cases e1
    | non =>
      cases y with
      | fn _ _ => cases e2
      | exn _ _ => cases e2
      | cl _ => cases e2
      | ref j =>
        obtain ⟨ys, q1, q2, q3⟩ := data_ref e2
        rw [q3]
        show unlike h .non (.ref j) = _
        rw [unlike_no (by show (0 : Nat) ≠ 9; decide) (by rw [kind_ref q1]; decide) (by rw [kind_ref q1]; show (0 : Nat) ≠ 4; decide)]
        simp [pyOf, PyData.eqv, ofB_f]
      | non => simp only [pyOf, PyData.eqv]; rfl
      | bl _ => simp only [pyOf, PyData.eqv]; rfl
      | int _ => simp only [pyOf, PyData.eqv]; rfl
      | str _ => simp only [pyOf, PyData.eqv]; rfl
      | tup _ => simp only [pyOf, PyData.eqv]; rfl
    | bl a =>
      cases y with
      | fn _ _ => cases e2
      | exn _ _ => cases e2
      | cl _ => cases e2
      | ref j =>
        obtain ⟨ys, q1, q2, q3⟩ := data_ref e2
        rw [q3]
        show unlike h (.bl a) (.ref j) = _
        rw [unlike_no (by show (1 : Nat) ≠ 9; decide) (by rw [kind_ref q1]; decide) (by rw [kind_ref q1]; show (1 : Nat) ≠ 4; decide)]
        simp [pyOf, PyData.eqv, ofB_f]
      | non => simp only [pyOf, PyData.eqv]; rfl
      | bl b => simp only [pyOf, PyData.eqv]; cases a <;> cases b <;> rfl
      | int j =>
        simp only [pyOf, PyData.eqv]
        show ofB (intEq (cnd a 1 0) j) = _
        rw [intEq_iff]
        cases a <;> rfl
      | str _ => simp only [pyOf, PyData.eqv]; rfl
      | tup _ => simp only [pyOf, PyData.eqv]; rfl
    | int i =>
      cases y with
      | fn _ _ => cases e2
      | exn _ _ => cases e2
      | cl _ => cases e2
      | ref j =>
        obtain ⟨ys, q1, q2, q3⟩ := data_ref e2
        rw [q3]
        show unlike h (.int i) (.ref j) = _
        rw [unlike_no (by show (1 : Nat) ≠ 9; decide) (by rw [kind_ref q1]; decide) (by rw [kind_ref q1]; show (1 : Nat) ≠ 4; decide)]
        simp [pyOf, PyData.eqv, ofB_f]
      | non => simp only [pyOf, PyData.eqv]; rfl
      | bl b =>
        simp only [pyOf, PyData.eqv]
        show ofB (intEq i (cnd b 1 0)) = _
        rw [intEq_iff]
        cases b <;> rfl
      | int j =>
        simp only [pyOf, PyData.eqv]
        show ofB (intEq i j) = _
        rw [intEq_iff]
        rfl
      | str _ => simp only [pyOf, PyData.eqv]; rfl
      | tup _ => simp only [pyOf, PyData.eqv]; rfl
    | str a =>
      cases y with
      | fn _ _ => cases e2
      | exn _ _ => cases e2
      | cl _ => cases e2
      | ref j =>
        obtain ⟨ys, q1, q2, q3⟩ := data_ref e2
        rw [q3]
        show unlike h (.str a) (.ref j) = _
        rw [unlike_no (by show (2 : Nat) ≠ 9; decide) (by rw [kind_ref q1]; decide) (by rw [kind_ref q1]; show (2 : Nat) ≠ 4; decide)]
        simp [pyOf, PyData.eqv, ofB_f]
      | non => simp only [pyOf, PyData.eqv]; rfl
      | bl b => simp only [pyOf, PyData.eqv]; rfl
      | int j => simp only [pyOf, PyData.eqv]; rfl
      | str b =>
        simp only [pyOf, PyData.eqv]
        show ofB (natsEq a b) = _
        rw [natsEq_iff, str_eq]
      | tup _ => simp only [pyOf, PyData.eqv]; rfl
    | tup a =>
      cases y with
      | fn _ _ => cases e2
      | exn _ _ => cases e2
      | cl _ => cases e2
      | ref j =>
        obtain ⟨ys, q1, q2, q3⟩ := data_ref e2
        rw [q3]
        show unlike h (.tup a) (.ref j) = _
        rw [unlike_no (by show (3 : Nat) ≠ 9; decide) (by rw [kind_ref q1]; decide) (by rw [kind_ref q1]; show (3 : Nat) ≠ 4; decide)]
        simp [pyOf, PyData.eqv, ofB_f]
      | non => simp only [pyOf, PyData.eqv]; rfl
      | bl b => simp only [pyOf, PyData.eqv]; rfl
      | int j => simp only [pyOf, PyData.eqv]; rfl
      | str b => simp only [pyOf, PyData.eqv]; rfl
      | tup b =>
        simp only [pyOf, PyData.eqv]
        exact eqs_of (eq_of n) (data_tup e1) (data_tup e2)
    | ref i =>
      obtain ⟨xs, p1, p2, p3⟩ := data_ref e1
      rw [p3]
      cases y with
      | fn _ _ => cases e2
      | exn _ _ => cases e2
      | cl _ => cases e2
      | ref j =>
        obtain ⟨ys, q1, q2, q3⟩ := data_ref e2
        rw [q3, PyData.eqv]
        show obL .un (h.get i) (fun a => obL .un (h.get j) fun b => eqs (eqD h n) a b) = _
        rw [p1, q1]
        exact eqs_of (eq_of n) p2 q2
      | non =>
        simp only [pyOf, PyData.eqv]
        exact unlike_no (by rw [kind_ref p1]; decide) (by show (0 : Nat) ≠ 9; decide) (by rw [kind_ref p1]; show (4 : Nat) ≠ 0; decide)
      | bl b =>
        simp only [pyOf, PyData.eqv]
        exact unlike_no (by rw [kind_ref p1]; decide) (by show (1 : Nat) ≠ 9; decide) (by rw [kind_ref p1]; show (4 : Nat) ≠ 1; decide)
      | int j =>
        simp only [pyOf, PyData.eqv]
        exact unlike_no (by rw [kind_ref p1]; decide) (by show (1 : Nat) ≠ 9; decide) (by rw [kind_ref p1]; show (4 : Nat) ≠ 1; decide)
      | str b =>
        simp only [pyOf, PyData.eqv]
        exact unlike_no (by rw [kind_ref p1]; decide) (by show (2 : Nat) ≠ 9; decide) (by rw [kind_ref p1]; show (4 : Nat) ≠ 2; decide)
      | tup b =>
        simp only [pyOf, PyData.eqv]
        exact unlike_no (by rw [kind_ref p1]; decide) (by show (3 : Nat) ≠ 9; decide) (by rw [kind_ref p1]; show (4 : Nat) ≠ 3; decide)
end Dz

set_option Elab.async false
set_option linter.all false
set_option maxRecDepth 100000
set_option maxHeartbeats 2000000
/-! Dz: < of data; comparisons, tests. -/
namespace Dz
open PySem L2 PySem.W PyProof.Rows
theorem alikes_of {h : DH} {n : Nat} (ih : ∀ x y, isData h n x = true → isData h n y = true → alikeD h n x y = true → alike (pyOf h n x) (pyOf h n y) = true) : ∀ {xs ys : List DV}, (∀ x ∈ xs, isData h n x = true) → (∀ x ∈ ys, isData h n x = true) → alikes (alikeD h n) xs ys = true → alikeAll (xs.map (pyOf h n)) (ys.map (pyOf h n)) = true
  | [], _, _, _, _ => by rw [List.map_nil, alikeAll]
  | _ :: _, [], _, _, _ => by rw [List.map_nil, List.map_cons, alikeAll]
  | x :: xs, y :: ys, e1, e2, e => by
    obtain ⟨q1, q2⟩ := cnd_and (show cnd (alikeD h n x y) (alikes (alikeD h n) xs ys) false = true from e)
    rw [List.map_cons, List.map_cons, alikeAll, ih x y (e1 x (.head _)) (e2 y (.head _)) q1, alikes_of ih (fun z hz => e1 z (.tail _ hz)) (fun z hz => e2 z (.tail _ hz)) q2]
    rfl
theorem onT_b {x : DV} {k : List DV → Bool} (h : onT false x k = true) : ∃ b, x = .tup b ∧ k b = true := onT_of h
theorem onS_b {x : DV} {k : List Nat → Bool} (h : onS false x k = true) : ∃ b, x = .str b ∧ k b = true := by
  cases x <;> first | exact ⟨_, rfl, h⟩ | cases h
theorem alike_ofD : ∀ {h : DH} (n : Nat) (x y : DV), isData h n x = true → isData h n y = true → alikeD h n x y = true → alike (pyOf h n x) (pyOf h n y) = true
  | _, 0, _, _, e, _, _ => by cases e
  | h, n + 1, x, y, e1, e2, e => by
    have e : alikeStep h (alikeD h n) x y = true := e
    cases x with
    | fn _ _ => cases e1
    | exn _ _ => cases e1
    | cl _ => cases e1
    | non =>
      cases y with
      | non => simp [pyOf, alike]
      | _ => cases e
    | bl a =>
      obtain ⟨b, rfl, _⟩ := onB_of e
      simp [pyOf, alike]
    | int a =>
      obtain ⟨b, rfl, _⟩ := onI_of e
      simp [pyOf, alike]
    | str a =>
      obtain ⟨b, rfl, _⟩ := onS_b e
      simp [pyOf, alike]
    | tup a =>
      obtain ⟨b, rfl, e⟩ := onT_of e
      simp only [pyOf, alike]
      exact alikes_of (alike_ofD n) (data_tup e1) (data_tup e2) e
    | ref i =>
      obtain ⟨j, rfl, e3⟩ := onR_of e
      obtain ⟨xs, p1, p2, p3⟩ := data_ref e1
      obtain ⟨ys, q1, q2, q3⟩ := data_ref e2
      rw [p1] at e3
      have e4 : obL false (h.get j) (fun b => alikes (alikeD h n) xs b) = true := e3
      rw [q1] at e4
      rw [p3, q3, alike]
      exact alikes_of (alike_ofD n) p2 q2 e4
theorem natsLt_iff : ∀ xs ys : List Nat, natsLt xs ys = decide (xs < ys)
  | [], [] => by simp [natsLt, nilB, cnd]
  | [], b :: ys => by
    show true = _
    simp
  | a :: xs, [] => by
    show false = _
    simp
  | a :: xs, b :: ys => by
    show cnd (Nat.beq a b) (natsLt xs ys) (Nat.ble (a + 1) b) = _
    rw [natsLt_iff xs ys, Bool.eq_iff_iff, decide_eq_true_iff, List.cons_lt_cons_iff]
    by_cases e : a = b
    · subst e; rw [Nat.beq_refl, cnd_true, decide_eq_true_iff]; simp
    · rw [beq_f e, cnd_false, Nat.ble_eq]
      constructor
      · intro h; exact .inl h
      · rintro (h | ⟨h, _⟩)
        · exact h
        · exact absurd h e
def T3Is (t : T3) (b : Bool) : Prop := (t = .yes → b = true) ∧ (t = .no → b = false)
theorem t3_ofB : ∀ b : Bool, T3Is (ofB b) b
  | true => ⟨fun _ => rfl, fun h => (nomatch h)⟩
  | false => ⟨fun h => (nomatch h), fun _ => rfl⟩
theorem t3_un (b : Bool) : T3Is .un b := ⟨fun h => (nomatch h), fun h => (nomatch h)⟩
theorem lex_nil_cons {l : List (Int ⊕ List Nat)} : lexLt itemOrd (Sum.inl 0 :: []) (Sum.inl 1 :: l) = true := by
  rw [lex_atom (by simp), lex_one]; rfl
theorem lex_cons_nil {l : List (Int ⊕ List Nat)} : lexLt itemOrd (Sum.inl 1 :: l) (Sum.inl 0 :: []) = false := by
  rw [lex_atom (by simp), lex_one]; rfl
theorem lex_nil_nil : lexLt itemOrd [Sum.inl 0] [(Sum.inl 0 : Int ⊕ List Nat)] = false := by
  rw [lex_one]; rfl
theorem lts_of {h : DH} {n : Nat} (ih : ∀ x y, isData h n x = true → isData h n y = true → alikeD h n x y = true → T3Is (ltD h n x y) (dataLt (pyOf h n x) (pyOf h n y))) : ∀ {xs ys : List DV}, (∀ x ∈ xs, isData h n x = true) → (∀ x ∈ ys, isData h n x = true) → alikes (alikeD h n) xs ys = true →
    T3Is (lts (eqD h n) (ltD h n) xs ys) (lexLt itemOrd (keyToksAll (xs.map (pyOf h n))) (keyToksAll (ys.map (pyOf h n))))
  | [], [], _, _, _ => by
    rw [List.map_nil, keyToksAll, lex_nil_nil]
    exact t3_ofB false
  | [], _ :: _, _, _, _ => by
    rw [List.map_nil, List.map_cons, keyToksAll, toks_all_cons, lex_nil_cons]
    exact t3_ofB true
  | _ :: _, [], _, _, _ => by
    rw [List.map_nil, List.map_cons, keyToksAll, toks_all_cons, lex_cons_nil]
    exact t3_ofB false
  | x :: xs, y :: ys, e1, e2, e => by
    obtain ⟨q1, q2⟩ := cnd_and (show cnd (alikeD h n x y) (alikes (alikeD h n) xs ys) false = true from e)
    have d1 := e1 x (.head _)
    have d2 := e2 y (.head _)
    have hal := alike_ofD n x y d1 d2 q1
    show T3Is (on3 (eqD h n x y) (ltD h n x y) (lts (eqD h n) (ltD h n) xs ys) .un) _
    rw [List.map_cons, List.map_cons, eq_of n x y d1 d2]
    cases he : PyData.eqv (pyOf h n x) (pyOf h n y) with
    | false =>
      rw [dataLt_all_no hal he]
      exact ih x y d1 d2 q1
    | true =>
      rw [dataLt_all_yes hal he]
      exact lts_of ih (fun z hz => e1 z (.tail _ hz)) (fun z hz => e2 z (.tail _ hz)) q2
theorem lt_of : ∀ {h : DH} (n : Nat) (x y : DV), isData h n x = true → isData h n y = true → alikeD h n x y = true → T3Is (ltD h n x y) (dataLt (pyOf h n x) (pyOf h n y))
  | _, 0, _, _, e, _, _ => by cases e
  | h, n + 1, x, y, e1, e2, e => by
    have e : alikeStep h (alikeD h n) x y = true := e
    show T3Is (ltStep h (lts (eqD h n) (ltD h n)) x y) _
    cases x with
    | fn _ _ => cases e1
    | exn _ _ => cases e1
    | cl _ => cases e1
    | non => exact t3_un _
    | bl a => exact t3_un _
    | int a =>
      obtain ⟨b, rfl, _⟩ := onI_of e
      simp only [pyOf]
      rw [dataLt_int]
      show T3Is (ofB (intLt a b)) _
      rw [intLt_iff]
      exact t3_ofB _
    | str a =>
      obtain ⟨b, rfl, _⟩ := onS_b e
      simp only [pyOf]
      rw [dataLt_str]
      show T3Is (ofB (natsLt a b)) _
      rw [natsLt_iff]
      simpa using t3_ofB (decide (a < b))
    | tup a =>
      obtain ⟨b, rfl, e⟩ := onT_of e
      simp only [pyOf]
      rw [dataLt_tuple]
      exact lts_of (lt_of n) (data_tup e1) (data_tup e2) e
    | ref i =>
      obtain ⟨j, rfl, e3⟩ := onR_of e
      obtain ⟨xs, p1, p2, p3⟩ := data_ref e1
      obtain ⟨ys, q1, q2, q3⟩ := data_ref e2
      rw [p1] at e3
      have e4 : obL false (h.get j) (fun b => alikes (alikeD h n) xs b) = true := e3
      rw [q1] at e4
      rw [p3, q3, dataLt_list]
      show T3Is (obL .un (h.get i) fun a => obL .un (h.get j) fun b => lts (eqD h n) (ltD h n) a b) _
      rw [p1, q1]
      exact lts_of (lt_of n) p2 q2 e4
/-! ### the operators -/
section
variable {X : Cx}
def rOrd (K : PySem.W.Frag) (f : PyData → PyData → Bool) : R2 := fun x y H Q => ∃ d e, Dp K H x d ∧ Dp K H y e ∧ alike d e = true ∧ d ≠ .none ∧ d.depth ≤ 64 ∧ Q (.bl (f d e)) H
theorem op_ord {o : Value → Value → Sem Value} {f : PyData → PyData → Bool} (hu : X.A.units + 64 < cLine)
    (rule : ∀ {E : Value → Shared → Prop} {s : Shared} {a b : Value} {da db : PyData} {as bs : List Addr} {Q : Value → Shared → Prop}, Reads s.heap a da as → Reads s.heap b db bs → alike da db = true → da ≠ .none → X.A.units + min da.depth db.depth < cLine → Q (.bool (f da db)) s → wpAny (model X.prog X.w) X.A (o a b) Q E s) : OpR X o (rOrd X.K f) := by
  intro pins s σ H x y v u Q I rx ry h
  obtain ⟨d, e, hd, he, ha, hn, hk, q⟩ := h
  obtain ⟨as, r1⟩ := Dp.reads I d x v hd rx
  obtain ⟨bs, r2⟩ := Dp.reads I e y u he ry
  have h2 : min d.depth e.depth ≤ d.depth := Nat.min_le_left _ _
  exact rule r1 r2 ha hn (by omega) ⟨.bl _, H, I, rfl, q⟩
theorem op_ltDt (hu : X.A.units + 64 < cLine) : OpR X (compareOp .Lt) (rOrd X.K fun d e => dataLt d e) := op_ord hu fun a b c d e f => lt_data a b c d e f
theorem op_gtDt (hu : X.A.units + 64 < cLine) : OpR X (compareOp .Gt) (rOrd X.K fun d e => dataLt e d) := op_ord hu fun a b c d e f => gt_data a b c d e f
theorem op_leDt (hu : X.A.units + 64 < cLine) : OpR X (compareOp .LtE) (rOrd X.K fun d e => !dataLt e d) := op_ord hu fun a b c d e f => le_data a b c d e f
theorem op_geDt (hu : X.A.units + 64 < cLine) : OpR X (compareOp .GtE) (rOrd X.K fun d e => !dataLt d e) := op_ord hu fun a b c d e f => ge_data a b c d e f
end
theorem t3_of {neg : Bool} {t : T3} {h : DH} {k : KV} (e : ko (t3 neg t) h k = true) : ∃ b, t = ofB b ∧ k (.bl (if neg then !b else b)) h = true := by
  cases t with
  | no => exact ⟨false, rfl, by cases neg <;> exact e⟩
  | yes => exact ⟨true, rfl, by cases neg <;> exact e⟩
  | un => cases e
/-- what a comparison is, by the data -/
def CmpOk (k0 : Nat) (X : Cx) (o : Value → Value → Sem Value) (neg : Bool) (f : DV → DV → DH → T3) : Prop := ∃ r : R2, OpR X o r ∧
  ∀ (C : Sc) (ρ : List Loc) (dh : DH) (fr : Fr) (σ : L2.St) (H : Hp) (x y : DV) (v w : V) (Q : VK) (b : Bool), C.X = X → C.St ρ dh fr σ H → RelD C.G ρ H x v → RelD C.G ρ H y w → f x y dh = ofB b → Q (.bl (if neg then !b else b)) H → r v w H Q
theorem cnd_un {c : Bool} {t : T3} {b : Bool} (e : cnd c t .un = ofB b) : c = true ∧ t = ofB b := by
  cases c
  · cases b <;> cases e
  · exact ⟨rfl, e⟩
theorem ofB_inj {a b : Bool} (e : ofB a = ofB b) : a = b := by cases a <;> cases b <;> first | rfl | cases e
theorem T3Is.eq {t : T3} {a b : Bool} (h : T3Is t a) (e : t = ofB b) : a = b := by
  cases b
  · exact h.2 e
  · exact h.1 e
theorem two_of {h : DH} {x y : DV} (e : twoData h eqF x y = true) : isData h eqF x = true ∧ isData h eqF y = true := cnd_and e
theorem ok_eq {n : Nat} {X : Cx} (hu : X.A.units + 200 < cLine) : CmpOk n X (compareOp .Eq) false eqC := by
  refine ⟨_, op_eqD (by omega), fun C ρ dh fr σ H x y v w Q b hX st rx ry e q => ?_⟩
  subst hX
  obtain ⟨e1, e2⟩ := cnd_un e
  obtain ⟨d1, d2⟩ := two_of e1
  rw [eq_of eqF x y d1 d2] at e2
  refine ⟨_, _, dp_of st eqF x v d1 rx, dp_of st eqF y w d2 ry, py_shaped d1, py_shaped d2, ?_⟩
  rw [ofB_inj e2]; exact q
theorem ok_ne {n : Nat} {X : Cx} (hu : X.A.units + 200 < cLine) : CmpOk n X (compareOp .NotEq) true eqC := by
  refine ⟨_, op_neD (by omega), fun C ρ dh fr σ H x y v w Q b hX st rx ry e q => ?_⟩
  subst hX
  obtain ⟨e1, e2⟩ := cnd_un e
  obtain ⟨d1, d2⟩ := two_of e1
  rw [eq_of eqF x y d1 d2] at e2
  refine ⟨_, _, dp_of st eqF x v d1 rx, dp_of st eqF y w d2 ry, py_shaped d1, py_shaped d2, ?_⟩
  rw [ofB_inj e2]; exact q
theorem ord_of {h : DH} {x y : DV} (e : ordOk h eqF x y = true) : isData h eqF x = true ∧ isData h eqF y = true ∧ x ≠ .non ∧ alikeD h eqF x y = true := by
  obtain ⟨a, e⟩ := cnd_and e
  obtain ⟨b, e⟩ := cnd_and e
  refine ⟨a, b, fun z => ?_, ?_⟩
  · subst z; cases e
  · cases x <;> first | exact e | cases e
theorem py_ne {h : DH} {x : DV} (e : isData h eqF x = true) (n : x ≠ .non) : pyOf h eqF x ≠ .none := by
  cases x with
  | non => exact absurd rfl n
  | ref i =>
    obtain ⟨xs, _, _, p⟩ := data_ref (n := 39) e
    show pyOf h (39 + 1) (.ref i) ≠ .none
    rw [p]; simp
  | fn _ _ => cases e
  | exn _ _ => cases e
  | cl _ => cases e
  | _ => simp [eqF, pyOf]
theorem eqF_le {h : DH} (x : DV) : PyData.depth (pyOf h eqF x) ≤ 64 := Nat.le_trans (py_depth eqF x) (by decide)
theorem alike_symD : ∀ {h : DH} {n : Nat} {x y : DV}, alikeD h n x y = true → alikeD h n y x = true
  | _, 0, _, _, e => by cases e
  | h, n + 1, x, y, e => by
    have e : alikeStep h (alikeD h n) x y = true := e
    show alikeStep h (alikeD h n) y x = true
    have al : ∀ xs ys : List DV, alikes (alikeD h n) xs ys = true → alikes (alikeD h n) ys xs = true := fun xs => by
      induction xs with
      | nil => intro ys _; cases ys <;> rfl
      | cons a xs ih =>
        intro ys e
        cases ys with
        | nil => rfl
        | cons b ys =>
          obtain ⟨q1, q2⟩ := cnd_and (show cnd (alikeD h n a b) (alikes (alikeD h n) xs ys) false = true from e)
          show cnd (alikeD h n b a) (alikes (alikeD h n) ys xs) false = true
          rw [alike_symD q1, cnd_true]
          exact ih ys q2
    cases x with
    | non => cases y <;> first | rfl | cases e
    | bl _ => cases y <;> first | rfl | cases e
    | int _ => cases y <;> first | rfl | cases e
    | str _ => cases y <;> first | rfl | cases e
    | tup a =>
      obtain ⟨b, rfl, e⟩ := onT_of e
      exact al a b e
    | ref i =>
      obtain ⟨j, rfl, e⟩ := onR_of e
      obtain ⟨xs, e1, e⟩ := obL_true e
      obtain ⟨ys, e2, e⟩ := obL_true e
      show obL false (h.get j) (fun a => obL false (h.get i) fun b => alikes (alikeD h n) a b) = true
      rw [e1, e2]
      exact al xs ys e
    | fn _ _ => cases e
    | exn _ _ => cases e
    | cl _ => cases e
theorem ok_lt {n : Nat} {X : Cx} (hu : X.A.units + 200 < cLine) : CmpOk n X (compareOp .Lt) false ltC := by
  refine ⟨_, op_ltDt (by omega), fun C ρ dh fr σ H x y v w Q b hX st rx ry e q => ?_⟩
  subst hX
  obtain ⟨e1, e2⟩ := cnd_un e
  obtain ⟨d1, d2, d3, d4⟩ := ord_of e1
  refine ⟨_, _, dp_of st eqF x v d1 rx, dp_of st eqF y w d2 ry, alike_ofD _ _ _ d1 d2 d4, py_ne d1 d3, eqF_le x, ?_⟩
  show Q (V.bl (dataLt (pyOf dh eqF x) (pyOf dh eqF y))) H
  rw [(lt_of eqF x y d1 d2 d4).eq e2]; exact q
theorem ok_gt {n : Nat} {X : Cx} (hu : X.A.units + 200 < cLine) : CmpOk n X (compareOp .Gt) false gtC := by
  refine ⟨_, op_gtDt (by omega), fun C ρ dh fr σ H x y v w Q b hX st rx ry e q => ?_⟩
  subst hX
  obtain ⟨e1, e2⟩ := cnd_un e
  obtain ⟨d1, d2, d3, d4⟩ := ord_of e1
  refine ⟨_, _, dp_of st eqF x v d1 rx, dp_of st eqF y w d2 ry, alike_ofD _ _ _ d1 d2 d4, py_ne d1 d3, eqF_le x, ?_⟩
  show Q (V.bl (dataLt (pyOf dh eqF y) (pyOf dh eqF x))) H
  rw [(lt_of eqF y x d2 d1 (alike_symD d4)).eq e2]; exact q
theorem not3_of {t : T3} {b : Bool} (e : not3 t = ofB b) : t = ofB (!b) := by
  cases t <;> cases b <;> first | rfl | cases e
theorem ok_le {n : Nat} {X : Cx} (hu : X.A.units + 200 < cLine) : CmpOk n X (compareOp .LtE) false leC := by
  refine ⟨_, op_leDt (by omega), fun C ρ dh fr σ H x y v w Q b hX st rx ry e q => ?_⟩
  subst hX
  obtain ⟨e1, e2⟩ := cnd_un e
  obtain ⟨d1, d2, d3, d4⟩ := ord_of e1
  refine ⟨_, _, dp_of st eqF x v d1 rx, dp_of st eqF y w d2 ry, alike_ofD _ _ _ d1 d2 d4, py_ne d1 d3, eqF_le x, ?_⟩
  show Q (V.bl (!dataLt (pyOf dh eqF y) (pyOf dh eqF x))) H
  rw [(lt_of eqF y x d2 d1 (alike_symD d4)).eq (not3_of e2), Bool.not_not]; exact q
theorem ok_ge {n : Nat} {X : Cx} (hu : X.A.units + 200 < cLine) : CmpOk n X (compareOp .GtE) false geC := by
  refine ⟨_, op_geDt (by omega), fun C ρ dh fr σ H x y v w Q b hX st rx ry e q => ?_⟩
  subst hX
  obtain ⟨e1, e2⟩ := cnd_un e
  obtain ⟨d1, d2, d3, d4⟩ := ord_of e1
  refine ⟨_, _, dp_of st eqF x v d1 rx, dp_of st eqF y w d2 ry, alike_ofD _ _ _ d1 d2 d4, py_ne d1 d3, eqF_le x, ?_⟩
  show Q (V.bl (!dataLt (pyOf dh eqF x) (pyOf dh eqF y))) H
  rw [(lt_of eqF x y d1 d2 d4).eq (not3_of e2), Bool.not_not]; exact q
end Dz

set_option Elab.async false
set_option linter.all false
set_option maxRecDepth 100000
set_option maxHeartbeats 2000000
/-! Dz: comparisons, tests, choices, places and slices. -/
namespace Dz
open PySem L2
section
variable {C : Sc} {e e2 e3 : Expr} {es : List Expr} {a b c : Ex} {t u : Tx} {pos : Pos} {op op2 : CmpOp} {neg neg2 : Bool} {f g : DV → DV → DH → T3} {n : Nat}
theorem T_go {ρ : List Loc} {dh : DH} {fr : Fr} {σ : L2.St} {H : Hp} {kx : KX} {k : Bool → DH → Bool} {Q : Bool → Hp → Prop} (ko : C.KT ρ H fr σ k Q) (st : C.St ρ dh fr σ H) {b : Bool} (h : k b dh = true) : Q b H := ko ρ dh H b st (Le.refl ρ H) h
theorem se_cmp (ho : CmpOk n C.X (compareOp op) neg f) (ha : PE C.X e (C.E a)) (hb : PE C.X e2 (C.E b)) (hm : behindInMarks op e2 = false) : PE C.X (.Compare e [op] [e2] pos) (C.E (cCmp neg f a b)) := by
  obtain ⟨r, h1, h2⟩ := ho
  refine pe_imp (pe_cmpR h1 ha hb hm) fun σ H Q ⟨ρ, dh, fr, kx, k, st, xo, ko, h⟩ => ?_
  refine E_then st xo h fun ρ1 dh1 H1 d v st1 le1 r1 h3 => ?_
  refine E_then st1 (xo.later le1) h3 fun ρ2 dh2 H2 d2 v2 st2 le2 r2 h4 => ?_
  obtain ⟨c, e, h5⟩ := t3_of h4
  exact h2 C ρ2 dh2 fr σ H2 d d2 v v2 Q c rfl st2 (RelD.later st1.hr.plain le2 r1) r2 e ((ko.later (le1.trans le2)).now st2 (rel_bl.mpr rfl) h5)
theorem st_cmp (ho : CmpOk n C.X (compareOp op) neg f) (ha : PE C.X e (C.E a)) (hb : PE C.X e2 (C.E b)) (hm : behindInMarks op e2 = false) : PT C.X (.Compare e [op] [e2] pos) (C.T (cTest (cCmp neg f a b))) := by
  obtain ⟨r, h1, h2⟩ := ho
  refine pt_imp (pt_cmpR h1 ha hb hm) fun σ H Q ⟨ρ, dh, fr, kx, k, st, xo, ko, h⟩ => ?_
  refine E_then st xo h fun ρ1 dh1 H1 d v st1 le1 r1 h3 => ?_
  refine E_then st1 (xo.later le1) h3 fun ρ2 dh2 H2 d2 v2 st2 le2 r2 h4 => ?_
  obtain ⟨c, e, h5⟩ := t3_of h4
  exact h2 C ρ2 dh2 fr σ H2 d d2 v v2 _ c rfl st2 (RelD.later st1.hr.plain le2 r1) r2 e ⟨_, rfl, (ko.later (le1.trans le2)) ρ2 dh2 H2 _ st2 (Le.refl _ _) h5⟩
theorem se_chain (ho : CmpOk n C.X (compareOp op) neg f) (ho2 : CmpOk n C.X (compareOp op2) neg2 g) (ha : PE C.X e (C.E a)) (hb : PE C.X e2 (C.E b)) (hc : PE C.X e3 (C.E c)) (hm : lastMarks [op, op2] [e2, e3] = false) : PE C.X (.Compare e [op, op2] [e2, e3] pos) (C.E (cChain neg neg2 f g a b c)) := by
  obtain ⟨r, h1, h2⟩ := ho
  obtain ⟨r', h1', h2'⟩ := ho2
  refine pe_imp (pe_chain h1 h1' ha hb hc hm) fun σ H Q ⟨ρ, dh, fr, kx, k, st, xo, ko, h⟩ => ?_
  refine E_then st xo h fun ρ1 dh1 H1 d v st1 le1 r1 h3 => ?_
  refine E_then st1 (xo.later le1) h3 fun ρ2 dh2 H2 d2 v2 st2 le2 r2 h4 => ?_
  obtain ⟨c, e, h5⟩ := t3_of h4
  refine h2 C ρ2 dh2 fr σ H2 d d2 v v2 _ c rfl st2 (RelD.later st1.hr.plain le2 r1) r2 e ⟨_, rfl, ?_⟩
  have h5 : cnd (if neg = true then !c else c) _ _ = true := h5
  generalize (if neg = true then !c else c) = q at h5
  cases q with
  | false => exact (ko.later (le1.trans le2)).now st2 (rel_bl.mpr rfl) h5
  | true =>
    show (C.E _) σ H2 _
    refine E_then st2 ((xo.later le1).later le2) h5 fun ρ3 dh3 H3 d3 v3 st3 le3 r3 h6 => ?_
    obtain ⟨c, e, h7⟩ := t3_of h6
    exact h2' C ρ3 dh3 fr σ H3 d2 d3 v2 v3 Q c rfl st3 (RelD.later st2.hr.plain le3 r2) r3 e ((ko.later ((le1.trans le2).trans le3)).now st3 (rel_bl.mpr rfl) h7)
theorem st_chain (ho : CmpOk n C.X (compareOp op) neg f) (ho2 : CmpOk n C.X (compareOp op2) neg2 g) (ha : PE C.X e (C.E a)) (hb : PE C.X e2 (C.E b)) (hc : PE C.X e3 (C.E c)) (hm : lastMarks [op, op2] [e2, e3] = false) : PT C.X (.Compare e [op, op2] [e2, e3] pos) (C.T (cTest (cChain neg neg2 f g a b c))) := by
  obtain ⟨r, h1, h2⟩ := ho
  obtain ⟨r', h1', h2'⟩ := ho2
  refine pt_imp (pt_chain h1 h1' ha hb hc hm) fun σ H Q ⟨ρ, dh, fr, kx, k, st, xo, ko, h⟩ => ?_
  refine E_then st xo h fun ρ1 dh1 H1 d v st1 le1 r1 h3 => ?_
  refine E_then st1 (xo.later le1) h3 fun ρ2 dh2 H2 d2 v2 st2 le2 r2 h4 => ?_
  obtain ⟨c, e, h5⟩ := t3_of h4
  refine h2 C ρ2 dh2 fr σ H2 d d2 v v2 _ c rfl st2 (RelD.later st1.hr.plain le2 r1) r2 e ⟨_, rfl, ?_⟩
  have h5 : cnd (if neg = true then !c else c) _ _ = true := h5
  generalize (if neg = true then !c else c) = q at h5
  cases q with
  | false => exact ⟨_, rfl, (ko.later (le1.trans le2)) ρ2 dh2 H2 _ st2 (Le.refl _ _) h5⟩
  | true =>
    show (C.E _) σ H2 _
    refine E_then st2 ((xo.later le1).later le2) h5 fun ρ3 dh3 H3 d3 v3 st3 le3 r3 h6 => ?_
    obtain ⟨c, e, h7⟩ := t3_of h6
    exact h2' C ρ3 dh3 fr σ H3 d2 d3 v2 v3 _ c rfl st3 (RelD.later st2.hr.plain le3 r2) r3 e ⟨_, rfl, (ko.later ((le1.trans le2).trans le3)) ρ3 dh3 H3 _ st3 (Le.refl _ _) h7⟩
/-! ### tests -/
theorem st_val (ha : PE C.X e (C.E a)) (he : ∀ whole, isTrue e C.X.env whole = (do let v ← whole; standAt e.pos; holding [v] (truthy v))) : PT C.X e (C.T (cTest a)) := by
  refine pt_imp (pt_val ha he) fun σ H Q ⟨ρ, dh, fr, kx, k, st, xo, ko, h⟩ => ?_
  refine E_then st xo h fun ρ1 dh1 H1 d v st1 le1 r1 h3 => ?_
  obtain ⟨c, rfl, h3⟩ := onB_of h3
  exact ⟨c, rel_bl.mp r1, ko ρ1 dh1 H1 c st1 le1 h3⟩
theorem st_and1 (ha : PT C.X e (C.T t)) : PW C.X (.BoolOp .And [e] pos) (C.T t) := pw_and1 ha
theorem st_or1 (ha : PT C.X e (C.T t)) : PW C.X (.BoolOp .Or [e] pos) (C.T t) := pw_or1 ha
theorem st_and (ha : PT C.X e (C.T t)) (hb : PW C.X (.BoolOp .And (e2 :: es) pos) (C.T u)) : PW C.X (.BoolOp .And (e :: e2 :: es) pos) (C.T (tAnd t u)) := by
  refine pw_imp (pw_and ha hb) fun σ H Q ⟨ρ, dh, fr, kx, k, st, xo, ko, h⟩ => ?_
  refine T_then st xo h fun ρ1 dh1 H1 c st1 le1 h3 => ?_
  cases c with
  | false => exact ko ρ1 dh1 H1 false st1 le1 h3
  | true => exact ⟨ρ1, dh1, fr, kx, k, st1, xo.later le1, ko.later le1, h3⟩
theorem st_or (ha : PT C.X e (C.T t)) (hb : PW C.X (.BoolOp .Or (e2 :: es) pos) (C.T u)) : PW C.X (.BoolOp .Or (e :: e2 :: es) pos) (C.T (tOr t u)) := by
  refine pw_imp (pw_or ha hb) fun σ H Q ⟨ρ, dh, fr, kx, k, st, xo, ko, h⟩ => ?_
  refine T_then st xo h fun ρ1 dh1 H1 c st1 le1 h3 => ?_
  cases c with
  | true => exact ko ρ1 dh1 H1 true st1 le1 h3
  | false => exact ⟨ρ1, dh1, fr, kx, k, st1, xo.later le1, ko.later le1, h3⟩
theorem st_not (ha : PT C.X e (C.T t)) : PT C.X (.UnaryOp .Not e pos) (C.T (tNot t)) := by
  refine pt_imp (pt_not ha) fun σ H Q ⟨ρ, dh, fr, kx, k, st, xo, ko, h⟩ => ?_
  refine T_then st xo h fun ρ1 dh1 H1 c st1 le1 h3 => ?_
  have := ko ρ1 dh1 H1 _ st1 le1 h3
  cases c <;> exact this
/-! ### and, or, not as values -/
theorem se_one {o : BoolOp} (ha : PE C.X e (C.E a)) : PE C.X (.BoolOp o [e] pos) (C.E a) := pe_one ha
theorem se_and (ha : PE C.X e (C.E a)) (hb : PE C.X (.BoolOp .And (e2 :: es) pos) (C.E b)) : PE C.X (.BoolOp .And (e :: e2 :: es) pos) (C.E (cAnd a b)) := by
  refine pe_imp (pe_and ha hb) fun σ H Q ⟨ρ, dh, fr, kx, k, st, xo, ko, h⟩ => ?_
  refine E_then st xo h fun ρ1 dh1 H1 d v st1 le1 r1 h3 => ?_
  obtain ⟨c, rfl, h3⟩ := onB_of h3
  refine ⟨c, rel_bl.mp r1, ?_⟩
  cases c with
  | false => exact (ko.later le1).now st1 (rel_bl.mpr rfl) h3
  | true => exact ⟨ρ1, dh1, fr, kx, k, st1, xo.later le1, ko.later le1, h3⟩
theorem se_or (ha : PE C.X e (C.E a)) (hb : PE C.X (.BoolOp .Or (e2 :: es) pos) (C.E b)) : PE C.X (.BoolOp .Or (e :: e2 :: es) pos) (C.E (cOr a b)) := by
  refine pe_imp (pe_or ha hb) fun σ H Q ⟨ρ, dh, fr, kx, k, st, xo, ko, h⟩ => ?_
  refine E_then st xo h fun ρ1 dh1 H1 d v st1 le1 r1 h3 => ?_
  obtain ⟨c, rfl, h3⟩ := onB_of h3
  refine ⟨c, rel_bl.mp r1, ?_⟩
  cases c with
  | true => exact (ko.later le1).now st1 (rel_bl.mpr rfl) h3
  | false => exact ⟨ρ1, dh1, fr, kx, k, st1, xo.later le1, ko.later le1, h3⟩
theorem se_not (ha : PE C.X e (C.E a)) : PE C.X (.UnaryOp .Not e pos) (C.E (cNot a)) := by
  refine pe_imp (pe_not ha) fun σ H Q ⟨ρ, dh, fr, kx, k, st, xo, ko, h⟩ => ?_
  refine E_then st xo h fun ρ1 dh1 H1 d v st1 le1 r1 h3 => ?_
  obtain ⟨c, rfl, h3⟩ := onB_of h3
  refine ⟨c, rel_bl.mp r1, (ko.later le1).now st1 (rel_bl.mpr ?_) h3⟩
  cases c <;> rfl
theorem se_ite (ht : PT C.X e (C.T t)) (ha : PE C.X e2 (C.E a)) (hb : PE C.X e3 (C.E b)) : PE C.X (.IfExp e e2 e3 pos) (C.E (cIte t a b)) := by
  refine pe_imp (pe_ifExp ht ha hb) fun σ H Q ⟨ρ, dh, fr, kx, k, st, xo, ko, h⟩ => ?_
  refine T_then st xo h fun ρ1 dh1 H1 c st1 le1 h3 => ?_
  cases c with
  | true => exact ⟨ρ1, dh1, fr, kx, k, st1, xo.later le1, ko.later le1, h3⟩
  | false => exact ⟨ρ1, dh1, fr, kx, k, st1, xo.later le1, ko.later le1, h3⟩
end
/-! ### is -/
theorem isId_of {G : Gv} {ρ : List Loc} {H : Hp} {x y : DV} {v w : V} {b : Bool} (rx : RelD G ρ H x v) (ry : RelD G ρ H y w) (e : isId x y = ofB b) : (w = .non ∧ decide (v = .non) = b) ∨ ∃ p q : Bool, v = .bl p ∧ w = .bl q ∧ decide (p = q) = b := by
  cases y with
  | non =>
    rw [rel_non] at ry
    refine .inl ⟨ry, ?_⟩
    cases x with
    | non => rw [rel_non] at rx; subst rx; cases b <;> first | rfl | cases e
    | bl c => rw [rel_bl] at rx; subst rx; cases b <;> first | rfl | cases e
    | int i => rw [rel_int] at rx; subst rx; cases b <;> first | rfl | cases e
    | str s => rw [rel_str] at rx; subst rx; cases b <;> first | rfl | cases e
    | tup xs => obtain ⟨a, vs, rfl, _⟩ := rel_tup.mp rx; cases b <;> first | rfl | cases e
    | ref i => obtain ⟨a, rfl, _⟩ := rel_ref.mp rx; cases b <;> first | rfl | cases e
    | fn k c => obtain ⟨a, rfl, _⟩ := rel_fn.mp rx; cases b <;> first | rfl | cases e
    | exn _ _ => exact absurd rx rel_exn
    | cl _ => cases b <;> cases e
  | bl q =>
    rw [rel_bl] at ry
    cases x with
    | bl p =>
      rw [rel_bl] at rx
      refine .inr ⟨p, q, rx, ry, ?_⟩
      cases p <;> cases q <;> cases b <;> first | rfl | cases e
    | _ => cases b <;> cases e
  | _ => cases b <;> cases e
theorem ok_is {n : Nat} {X : Cx} : CmpOk n X (compareOp .Is) false isC := by
  refine ⟨_, op_isN.or op_isBl, fun C ρ dh fr σ H x y v w Q b hX st rx ry e q => ?_⟩
  subst hX
  rcases isId_of rx ry e with ⟨h1, h2⟩ | ⟨p, p2, h1, h2, h3⟩
  · exact .inl ⟨h1, by rw [h2]; exact q⟩
  · exact .inr ⟨p, p2, h1, h2, by rw [h3]; exact q⟩
theorem ok_isnot {n : Nat} {X : Cx} : CmpOk n X (compareOp .IsNot) true isC := by
  refine ⟨_, op_notN.or op_notBl, fun C ρ dh fr σ H x y v w Q b hX st rx ry e q => ?_⟩
  subst hX
  rcases isId_of rx ry e with ⟨h1, h2⟩ | ⟨p, p2, h1, h2, h3⟩
  · exact .inl ⟨h1, by rw [h2]; exact q⟩
  · exact .inr ⟨p, p2, h1, h2, by rw [h3]; exact q⟩
/-! ### places, slices -/
theorem ixOf_eq (n : Nat) (i : Int) : ixOf n i = ixN n i := by
  unfold ixN
  cases i with
  | ofNat k =>
    show cnd (Nat.ble (k + 1) n) (some k) none = _
    rw [if_pos (by simp)]
    by_cases h : k < n
    · rw [show Nat.ble (k + 1) n = true from Nat.ble_eq.mpr h, if_pos (by simpa using h)]; rfl
    · rw [show Nat.ble (k + 1) n = false from Bool.eq_false_iff.mpr fun z => h (Nat.ble_eq.mp z), if_neg (by simpa using h)]; rfl
  | negSucc k =>
    show cnd (Nat.ble (k + 1) n) (some (n - (k + 1))) none = _
    rw [if_neg (by omega)]
    by_cases h : k + 1 ≤ n
    · rw [show Nat.ble (k + 1) n = true from Nat.ble_eq.mpr h, if_pos (by omega)]
      show some (n - (k + 1)) = _
      congr 1
      omega
    · rw [show Nat.ble (k + 1) n = false from Bool.eq_false_iff.mpr fun z => h (Nat.ble_eq.mp z), if_neg (by omega)]; rfl
theorem ixIn_eq (xs : List DV) (i : Int) : ixIn xs i = atI xs i := by
  unfold ixIn atI
  rw [ixOf_eq, lenN_eq]
  cases ixN xs.length i with
  | none => rfl
  | some j => exact nth_eq xs j
theorem rels_at {G : Gv} {ρ : List Loc} {H : Hp} {xs : List DV} {vs : List V} {i : Int} {d : DV} (r : RelDs G ρ H xs vs) (e : atI xs i = some d) : ∃ v, atI vs i = some v ∧ RelD G ρ H d v := by
  unfold atI at e ⊢
  rw [← rels_length r]
  cases q : ixN xs.length i with
  | none => rw [q] at e; cases e
  | some j =>
    rw [q] at e
    exact rels_get r e
theorem onI_o {x : DV} {f : Int → Option DV} {h : DH} {k : KV} (e : ko (onI none x f) h k = true) : ∃ i, x = .int i ∧ ko (f i) h k = true := by
  cases x <;> first | exact ⟨_, rfl, e⟩ | cases e
section
variable {C : Sc} {e e2 e3 : Expr} {a b c : Ex} {pos p2 : Pos}
theorem bound_eq (n d : Nat) (o : Option Int) : onO d o (bound n) = HT.sIx n d o := by
  cases o with
  | none => rfl
  | some i =>
    show bound n i = if i < 0 then (i + (n : Int)).toNat else min i.toNat n
    cases i with
    | ofNat k =>
      show cnd (Nat.ble k n) k n = _
      rw [if_neg (by simp only [Int.ofNat_eq_natCast]; omega)]
      show cnd (Nat.ble k n) k n = min k n
      by_cases h : k ≤ n
      · rw [show Nat.ble k n = true from Nat.ble_eq.mpr h, Nat.min_eq_left h]; rfl
      · rw [show Nat.ble k n = false from Bool.eq_false_iff.mpr fun z => h (Nat.ble_eq.mp z), Nat.min_eq_right (by omega)]; rfl
    | negSucc k =>
      show n - (k + 1) = _
      rw [if_pos (by omega)]
      omega
def cutG {α : Type} (xs : List α) (lo hi : Option Int) : List α := (xs.drop (HT.sIx xs.length 0 lo)).take (HT.sIx xs.length xs.length hi - HT.sIx xs.length 0 lo)
theorem cut_eq (xs : List DV) (lo hi : Option Int) : cut xs lo hi = cutG xs lo hi := by
  show takeN (Nat.sub (onO (lenN xs) hi (bound (lenN xs))) (onO 0 lo (bound (lenN xs)))) (dropN (onO 0 lo (bound (lenN xs))) xs) = _
  rw [takeN_eq, dropN_eq, lenN_eq, bound_eq, bound_eq]
  rfl
theorem rels_cut {G : Gv} {ρ : List Loc} {H : Hp} {xs : List DV} {vs : List V} (r : RelDs G ρ H xs vs) (lo hi : Option Int) : RelDs G ρ H (cutG xs lo hi) (cutV vs lo hi) := by
  unfold cutG cutV
  rw [rels_length r]
  exact rels_take _ (rels_drop _ r)
/-- a written part of a slice: none, or an int -/
def Sc.KO0 (C : Sc) (ρ : List Loc) (H : Hp) (fr : Fr) (σ : L2.St) (k : Option Int → DH → Bool) (Q : Option Int → Hp → Prop) : Prop := ∀ ρ' dh' H' o, C.St ρ' dh' fr σ H' → Le ρ H ρ' H' → k o dh' = true → Q o H'
def Sc.O (C : Sc) (t : Ox) : TO := fun σ H Q => ∃ ρ dh fr kx k, C.St ρ dh fr σ H ∧ C.XO ρ H fr σ kx ∧ C.KO0 ρ H fr σ k Q ∧ t fr dh kx k = true
theorem so_imp {X : Cx} {e : Option Expr} {t t' : TO} (h : PO X e t) (i : ∀ σ H Q, t' σ H Q → t σ H Q) : PO X e t' := ⟨fun pins s σ H Q I q => h.run pins s σ H Q I (i _ _ _ q)⟩
theorem so_no : PO C.X none (C.O oNo) := so_imp po_none fun σ H Q ⟨ρ, dh, fr, kx, k, st, xo, ko, h⟩ => ko ρ dh H none st (Le.refl _ _) h
theorem so_ex (ha : PE C.X e (C.E a)) : PO C.X (some e) (C.O (oEx a)) := so_imp (po_some ha) fun σ H Q ⟨ρ, dh, fr, kx, k, st, xo, ko, h⟩ => by
  refine E_then st xo h fun ρ1 dh1 H1 d v st1 le1 r1 h1 => ?_
  obtain ⟨i, rfl, h1⟩ := onI_of h1
  exact ⟨i, rel_int.mp r1, ko ρ1 dh1 H1 _ st1 le1 h1⟩
theorem O_then {ρ : List Loc} {dh : DH} {fr : Fr} {σ : L2.St} {H : Hp} {kx : KX} {t : Ox} {f : Option Int → DH → Bool} {R : Option Int → Hp → Prop} (st : C.St ρ dh fr σ H) (xo : C.XO ρ H fr σ kx) (h : t fr dh kx f = true)
    (n : ∀ ρ' dh' H' b, C.St ρ' dh' fr σ H' → Le ρ H ρ' H' → f b dh' = true → R b H') : C.O t σ H R := ⟨ρ, dh, fr, kx, f, st, xo, n, h⟩
theorem se_slice {lo hi : Option Expr} {l u : Ox} (ha : PE C.X e (C.E a)) (hl : PO C.X lo (C.O l)) (hu : PO C.X hi (C.O u)) : PE C.X (.Subscript e (.Slice lo hi none p2) pos) (C.E (cSl a l u)) := by
  refine pe_imp (pe_slice (sl_tupA.or sl_list) ha hl hu) fun σ H Q ⟨ρ, dh, fr, kx, k, st, xo, ko, h⟩ => ?_
  refine E_then st xo h fun ρ1 dh1 H1 d v st1 le1 r1 h1 => ?_
  refine O_then st1 (xo.later le1) h1 fun ρ2 dh2 H2 lo st2 le2 h2 => ?_
  refine O_then st2 ((xo.later le1).later le2) h2 fun ρ3 dh3 H3 hi st3 le3 h3 => ?_
  have r3 : RelD C.G ρ3 H3 d v := RelD.later st2.hr.plain le3 (RelD.later st1.hr.plain le2 r1)
  have ko3 := ko.later ((le1.trans le2).trans le3)
  cases d with
  | tup xs =>
    have h3 : kh (some (.tup (cut xs lo hi), dh3)) k = true := h3
    rw [cut_eq] at h3
    obtain ⟨p, vs, rfl, s, r⟩ := rel_tup.mp r3
    refine .inl ⟨p, vs, rfl, C.sq s, fun e => ?_, fun _ => ko3.tup st3 (rels_cut r lo hi) h3⟩
    have z : cutG xs lo hi = xs := by
      unfold cutG
      rw [rels_length r, e.1, e.2, List.drop_zero, Nat.sub_zero, ← rels_length r, List.take_length]
    rw [z] at h3
    exact ko3.now st3 r3 h3
  | ref i =>
    obtain ⟨xs, e1, h3⟩ := obL_h (show kh (obL none (dh3.get i) fun xs => newL (cut xs lo hi) dh3) k = true from h3)
    rw [cut_eq] at h3
    obtain ⟨p, vs, rfl, _, s, r⟩ := st_lst st3 r3 e1
    exact .inr ⟨p, vs, rfl, .inl (.inl s), ko3.lst st3 (rels_cut r lo hi) h3⟩
  | _ => cases h3
theorem se_rev {k2 : Nat} {q1 q2 q3 : Pos} (ha : PE C.X e (C.E a)) : PE C.X (.Subscript e (.Slice none none (some (.UnaryOp .USub (.Constant (.int 1) k2 q1) q2)) q3) pos) (C.E (cRev a)) := by
  refine pe_imp (pe_revL ha) fun σ H Q ⟨ρ, dh, fr, kx, k, st, xo, ko, h⟩ => ?_
  refine E_then st xo h fun ρ1 dh1 H1 d v st1 le1 r1 h1 => ?_
  obtain ⟨i, rfl, h1⟩ := onR_h h1
  obtain ⟨xs, e1, h1⟩ := obL_h h1
  obtain ⟨p, vs, rfl, _, s, r⟩ := st_lst st1 r1 e1
  rw [revO_eq, List.append_nil] at h1
  exact ⟨p, vs, rfl, .inl (.inl s), (ko.later le1).lst st1 (rels_rev r) h1⟩
end
end Dz

set_option Elab.async false
set_option linter.all false
set_option maxRecDepth 100000
set_option maxHeartbeats 2000000
/-! Dz: built-in functions. -/
namespace Dz
open PySem L2
/-- a built-in's call, by the data -/
def BcOk (X : Cx) (val : Value) (f : Bi) : Prop := ∃ r : List V → Hp → VK → Prop, CallR X val r ∧
  ∀ (C : Sc) (ρ : List Loc) (dh : DH) (fr : Fr) (σ : L2.St) (H : Hp) (ds : List DV) (vs : List V) (k : KV) (Q : VK), C.X = X → C.St ρ dh fr σ H → RelDs C.G ρ H ds vs → C.KO ρ H fr σ k Q → kh (f ds dh) k = true → r vs H Q
section
variable {C : Sc} {e : Expr} {es : List Expr} {t : Exs} {n : Nat} {f : Bi} {x : Str} {p pos : Pos} {id T : String}
theorem se_callB (hc : BcOk C.X (.builtin id) f) (hg : Gl C.X x) (hm : C.X.mg x = none) (hv : bootBuiltins x = some (.builtin id)) (ha : PA C.X (e :: es) (C.Es n t)) (hn : x ≠ "__name__") (hdb : (x == ("__debug__" : Str)) = false)
    (he : starEach (e :: es) C.X.env = (false, eval e C.X.env) :: starEach es C.X.env) (hpl : (backTo pos (starEach es C.X.env)).any (·.1) = false) : PE C.X (.Call (.Name x p) (e :: es) [] pos) (C.E (cBc f t)) := by
  obtain ⟨r, h1, h2⟩ := hc
  refine pe_imp (pe_callB h1 hg hm hv ha hn hdb he hpl) fun σ H Q ⟨ρ, dh, fr, kx, k, st, xo, ko, h⟩ => ?_
  refine Es_then st xo h fun ρ1 dh1 H1 ds vs st1 le1 r1 z1 h1 => ?_
  exact h2 C ρ1 dh1 fr σ H1 ds vs k Q rfl st1 r1 (ko.later le1) h1
theorem se_callTy (hc : BcOk C.X (.type T) f) (hg : Gl C.X x) (hm : C.X.mg x = none) (hv : bootBuiltins x = some (.type T)) (ha : PA C.X (e :: es) (C.Es n t)) (hn : x ≠ "__name__") (hdb : (x == ("__debug__" : Str)) = false)
    (he : starEach (e :: es) C.X.env = (false, eval e C.X.env) :: starEach es C.X.env) (hpl : (backTo pos (starEach es C.X.env)).any (·.1) = false) : PE C.X (.Call (.Name x p) (e :: es) [] pos) (C.E (cBc f t)) := by
  obtain ⟨r, h1, h2⟩ := hc
  refine pe_imp (pe_callTy h1 hg hm hv ha hn hdb he hpl) fun σ H Q ⟨ρ, dh, fr, kx, k, st, xo, ko, h⟩ => ?_
  refine Es_then st xo h fun ρ1 dh1 H1 ds vs st1 le1 r1 z1 h1 => ?_
  exact h2 C ρ1 dh1 fr σ H1 ds vs k Q rfl st1 r1 (ko.later le1) h1
end
theorem on1_h {f : DV → DH → RH} {ds : List DV} {h : DH} {k : KV} (e : kh (on1 f ds h) k = true) : ∃ x, ds = [x] ∧ kh (f x h) k = true := by
  cases ds with
  | nil => cases e
  | cons x r =>
    obtain ⟨e1, e⟩ := cnd_h (show kh (cnd (nilB r) (f x h) none) k = true from e)
    rw [nilB_true e1]
    exact ⟨x, rfl, e⟩
theorem on2_h {f : DV → DV → DH → RH} {ds : List DV} {h : DH} {k : KV} (e : kh (on2 f ds h) k = true) : ∃ x y, ds = [x, y] ∧ kh (f x y h) k = true := by
  cases ds with
  | nil => cases e
  | cons x r =>
    cases r with
    | nil => cases e
    | cons y s =>
      obtain ⟨e1, e⟩ := cnd_h (show kh (cnd (nilB s) (f x y h) none) k = true from e)
      rw [nilB_true e1]
      exact ⟨x, y, rfl, e⟩
section
variable {G : Gv} {ρ : List Loc} {H : Hp}
theorem rels1 {x : DV} {vs : List V} (r : RelDs G ρ H [x] vs) : ∃ v, vs = [v] ∧ RelD G ρ H x v := by
  obtain ⟨v, us, rfl, r1, r2⟩ := rels_cons.mp r
  rw [rels_nil] at r2; subst r2
  exact ⟨v, rfl, r1⟩
theorem rels2 {x y : DV} {vs : List V} (r : RelDs G ρ H [x, y] vs) : ∃ v w, vs = [v, w] ∧ RelD G ρ H x v ∧ RelD G ρ H y w := by
  obtain ⟨v, us, rfl, r1, r2⟩ := rels_cons.mp r
  obtain ⟨w, rfl, r3⟩ := rels1 r2
  exact ⟨v, w, rfl, r1, r3⟩
theorem lst_rel {C : Sc} {ρ : List Loc} {dh : DH} {fr : Fr} {σ : L2.St} {H : Hp} {x : DV} {v : V} {xs : List DV} (st : C.St ρ dh fr σ H) (r : RelD C.G ρ H x v) (e : lstOf x dh = some xs) : ∃ a vs, v = .ref a ∧ H a = some (.lst vs) ∧ RelDs C.G ρ H xs vs := by
  cases x with
  | ref i =>
    have e : obL none (dh.get i) some = some xs := e
    have e1 : dh.get i = some (.lst xs) := by
      cases q : dh.get i with
      | none => rw [q] at e; cases e
      | some o => cases o <;> rw [q] at e <;> cases e; rfl
    obtain ⟨a, vs, h1, _, h3, h4⟩ := st_lst st r e1
    exact ⟨a, vs, h1, h3, h4⟩
  | _ => cases e
theorem sq_rel {C : Sc} {ρ : List Loc} {dh : DH} {fr : Fr} {σ : L2.St} {H : Hp} {x : DV} {v : V} {xs : List DV} (st : C.St ρ dh fr σ H) (r : RelD C.G ρ H x v) (e : seqOf x dh = some xs) : ∃ a vs, v = .ref a ∧ RelDs C.G ρ H xs vs ∧ (SqL C.X.K H a vs ∨ SqT C.X.K H a vs) := by
  obtain ⟨a, vs, h1, h2, h3⟩ := st_seq st r e
  rcases h3 with ⟨_, h3⟩ | ⟨_, h3⟩
  · exact ⟨a, vs, h1, h2, .inr (C.sq h3)⟩
  · exact ⟨a, vs, h1, h2, .inl (.inl (.inl h3))⟩
end
variable {X : Cx}
theorem ok_len : BcOk X (.builtin "len") bLen := by
  refine ⟨_, call_len_seq.or (call_len_str.or (call_lenD.or call_len_dT)), fun C ρ dh fr σ H ds vs k Q hX st rr ko h => ?_⟩
  subst hX
  obtain ⟨x, rfl, h⟩ := on1_h h
  obtain ⟨v, rfl, r⟩ := rels1 rr
  obtain ⟨n, e, h⟩ := onO_h h
  cases x with
  | str s =>
    have e : cnd (fits (lenN s)) (some (lenN s)) none = some n := e
    cases hf : fits (lenN s) with
    | false => rw [hf] at e; cases e
    | true =>
      rw [hf] at e; cases e
      rw [rel_str] at r; subst r
      have := fits_le hf
      rw [lenN_eq] at this h
      exact .inr (.inl ⟨_, rfl, this, ko.now st (rel_int.mpr rfl) h⟩)
  | tup xs =>
    cases e
    rw [lenN_eq] at h
    obtain ⟨a, vs, rfl, s, r1⟩ := rel_tup.mp r
    refine .inl ⟨a, vs, rfl, .inr (C.sq s), ?_⟩
    rw [← rels_length r1]
    exact ko.now st (rel_int.mpr rfl) h
  | ref i =>
    have e : obL (obD none (dh.get i) fun kvs => some (lenN kvs)) (dh.get i) (fun xs => some (lenN xs)) = some n := e
    cases q : dh.get i with
    | none => rw [q] at e; cases e
    | some o =>
      rw [q] at e
      cases o with
      | lst xs =>
        cases e
        rw [lenN_eq] at h
        obtain ⟨a, vs, rfl, _, s, r1⟩ := st_lst st r q
        refine .inl ⟨a, vs, rfl, .inl (.inl (.inl s)), ?_⟩
        rw [← rels_length r1]
        exact ko.now st (rel_int.mpr rfl) h
      | dic kvs =>
        cases e
        rw [lenN_eq] at h
        obtain ⟨a, rfl, _, s⟩ := st_dic st r q
        rcases s with ⟨ks, _, h1, h2, _⟩ | ⟨ks, h1, h2, _⟩
        · refine .inr (.inr (.inl ⟨a, ks, rfl, h1, ?_⟩))
          have := congrArg List.length h2
          rw [List.length_map, List.length_map] at this
          rw [← this]
          exact ko.now st (rel_int.mpr rfl) h
        · refine .inr (.inr (.inr ⟨a, ks, rfl, h1, ?_⟩))
          have := congrArg List.length h2
          rw [List.length_map, List.length_map] at this
          rw [← this]
          exact ko.now st (rel_int.mpr rfl) h
      | _ => cases e
  | _ => cases e
theorem ok_list : BcOk X (.type "list") bList := by
  refine ⟨_, call_list_of, fun C ρ dh fr σ H ds vs k Q hX st rr ko h => ?_⟩
  subst hX
  obtain ⟨x, rfl, h⟩ := on1_h h
  obtain ⟨v, rfl, r⟩ := rels1 rr
  obtain ⟨xs, e, h⟩ := onO_h h
  obtain ⟨a, us, rfl, r1, s⟩ := sq_rel st r e
  exact ⟨a, us, rfl, s, ko.lst st r1 h⟩
theorem ok_tuple : BcOk X (.type "tuple") bTuple := by
  refine ⟨_, call_tuple_of, fun C ρ dh fr σ H ds vs k Q hX st rr ko h => ?_⟩
  subst hX
  obtain ⟨x, rfl, h⟩ := on1_h h
  obtain ⟨v, rfl, r⟩ := rels1 rr
  obtain ⟨xs, e, h4⟩ := onO_h h
  cases x with
  | tup ys =>
    cases e
    obtain ⟨a, us, rfl, s, _⟩ := rel_tup.mp r
    exact ⟨a, us, rfl, .inr ⟨C.sq s, ko.now st r h4⟩⟩
  | ref i =>
    obtain ⟨a, us, rfl, h3, r1⟩ := lst_rel st r (show lstOf (.ref i) dh = some xs from e)
    exact ⟨a, us, rfl, .inl ⟨.inl (.inl h3), ko.tup st r1 h4⟩⟩
  | _ => cases e
theorem ok_abs : BcOk X (.builtin "abs") bAbs := by
  refine ⟨_, call_abs, fun C ρ dh fr σ H ds vs k Q hX st rr ko h => ?_⟩
  subst hX
  obtain ⟨x, rfl, h⟩ := on1_h h
  obtain ⟨v, rfl, r⟩ := rels1 rr
  obtain ⟨i, rfl, h⟩ := onI_h h
  rw [rel_int] at r; subst r
  refine ⟨i, rfl, ko.now st (rel_int.mpr ?_) h⟩
  have : (if i < 0 then -i else i) = Int.ofNat i.natAbs := by
    show _ = (i.natAbs : Int)
    split <;> omega
  rw [this]
theorem ok_int : BcOk X (.type "int") bInt := by
  refine ⟨_, call_int1, fun C ρ dh fr σ H ds vs k Q hX st rr ko h => ?_⟩
  subst hX
  obtain ⟨x, rfl, h⟩ := on1_h h
  obtain ⟨v, rfl, r⟩ := rels1 rr
  obtain ⟨i, rfl, h⟩ := onI_h h
  rw [rel_int] at r; subst r
  exact .inl ⟨i, rfl, ko.now st (rel_int.mpr rfl) h⟩
/-! ### over lists of bools, of ints -/
theorem boolAll_of {G : Gv} {ρ : List Loc} {H : Hp} : ∀ {xs : List DV} {b : Bool} {vs : List V}, boolAll xs = some b → RelDs G ρ H xs vs → ∃ bs : List Bool, vs = bs.map V.bl ∧ bs.all id = b
  | [], b, vs, e, r => by
    cases e
    rw [rels_nil] at r; subst r
    exact ⟨[], rfl, rfl⟩
  | x :: xs, b, vs, e, r => by
    obtain ⟨v, us, rfl, r1, r2⟩ := rels_cons.mp r
    cases x with
    | bl c =>
      have e : onO none (boolAll xs) (fun d => some (cnd c d false)) = some b := e
      cases q : boolAll xs with
      | none => rw [q] at e; cases e
      | some d =>
        rw [q] at e; cases e
        obtain ⟨bs, rfl, h2⟩ := boolAll_of q r2
        rw [rel_bl] at r1; subst r1
        refine ⟨c :: bs, rfl, ?_⟩
        rw [List.all_cons, h2]
        cases c <;> rfl
    | _ => cases e
theorem boolAny_of {G : Gv} {ρ : List Loc} {H : Hp} : ∀ {xs : List DV} {b : Bool} {vs : List V}, boolAny xs = some b → RelDs G ρ H xs vs → ∃ bs : List Bool, vs = bs.map V.bl ∧ bs.any id = b
  | [], b, vs, e, r => by
    cases e
    rw [rels_nil] at r; subst r
    exact ⟨[], rfl, rfl⟩
  | x :: xs, b, vs, e, r => by
    obtain ⟨v, us, rfl, r1, r2⟩ := rels_cons.mp r
    cases x with
    | bl c =>
      have e : onO none (boolAny xs) (fun d => some (cnd c true d)) = some b := e
      cases q : boolAny xs with
      | none => rw [q] at e; cases e
      | some d =>
        rw [q] at e; cases e
        obtain ⟨bs, rfl, h2⟩ := boolAny_of q r2
        rw [rel_bl] at r1; subst r1
        refine ⟨c :: bs, rfl, ?_⟩
        rw [List.any_cons, h2]
        cases c <;> rfl
    | _ => cases e
theorem boolD_h {o : Option Bool} {h : DH} {k : KV} (e : kh (boolD o h) k = true) : ∃ b, o = some b ∧ k (.bl b) h = true := by
  cases o with
  | none => cases e
  | some b => exact ⟨b, rfl, e⟩
theorem intD_h {o : Option Int} {h : DH} {k : KV} (e : kh (intD o h) k = true) : ∃ b, o = some b ∧ k (.int b) h = true := by
  cases o with
  | none => cases e
  | some b => exact ⟨b, rfl, e⟩
theorem ok_all (hc : X.calm = true) : BcOk X (.builtin "all") bAll := by
  refine ⟨_, cr_all hc, fun C ρ dh fr σ H ds vs k Q hX st rr ko h => ?_⟩
  subst hX
  obtain ⟨x, rfl, h⟩ := on1_h h
  obtain ⟨v, rfl, r⟩ := rels1 rr
  obtain ⟨xs, e, h⟩ := onO_h h
  obtain ⟨b, e2, h⟩ := boolD_h h
  obtain ⟨a, us, rfl, h3, r1⟩ := lst_rel st r e
  obtain ⟨bs, rfl, h4⟩ := boolAll_of e2 r1
  exact ⟨a, bs, rfl, .inl (.inl h3), by rw [h4]; exact ko.now st (rel_bl.mpr rfl) h⟩
theorem ok_any (hc : X.calm = true) : BcOk X (.builtin "any") bAny := by
  refine ⟨_, cr_any hc, fun C ρ dh fr σ H ds vs k Q hX st rr ko h => ?_⟩
  subst hX
  obtain ⟨x, rfl, h⟩ := on1_h h
  obtain ⟨v, rfl, r⟩ := rels1 rr
  obtain ⟨xs, e, h⟩ := onO_h h
  obtain ⟨b, e2, h⟩ := boolD_h h
  obtain ⟨a, us, rfl, h3, r1⟩ := lst_rel st r e
  obtain ⟨bs, rfl, h4⟩ := boolAny_of e2 r1
  exact ⟨a, bs, rfl, .inl (.inl h3), by rw [h4]; exact ko.now st (rel_bl.mpr rfl) h⟩
theorem sumI_of {G : Gv} {ρ : List Loc} {H : Hp} : ∀ {xs : List DV} {a b : Int} {vs : List V}, sumI xs a = some b → RelDs G ρ H xs vs → ∃ ns : List Int, vs = ns.map V.int ∧ a + ns.sum = b
  | [], a, b, vs, e, r => by
    cases e
    rw [rels_nil] at r; subst r
    exact ⟨[], rfl, by simp⟩
  | x :: xs, a, b, vs, e, r => by
    obtain ⟨v, us, rfl, r1, r2⟩ := rels_cons.mp r
    cases x with
    | int c =>
      obtain ⟨ns, rfl, h2⟩ := sumI_of (show sumI xs (a + c) = some b from e) r2
      rw [rel_int] at r1; subst r1
      exact ⟨c :: ns, rfl, by rw [List.sum_cons]; omega⟩
    | _ => cases e
theorem ok_sum (hc : X.calm = true) : BcOk X (.builtin "sum") bSum := by
  refine ⟨_, cr_sum hc, fun C ρ dh fr σ H ds vs k Q hX st rr ko h => ?_⟩
  subst hX
  obtain ⟨x, rfl, h⟩ := on1_h h
  obtain ⟨v, rfl, r⟩ := rels1 rr
  obtain ⟨xs, e, h⟩ := onO_h h
  obtain ⟨b, e2, h⟩ := intD_h h
  obtain ⟨a, us, rfl, h3, r1⟩ := lst_rel st r e
  obtain ⟨ns, rfl, h4⟩ := sumI_of e2 r1
  exact ⟨a, ns, rfl, .inl (.inl h3), by rw [show ns.sum = b by omega]; exact ko.now st (rel_int.mpr rfl) h⟩
theorem maxI_of {G : Gv} {ρ : List Loc} {H : Hp} : ∀ {xs : List DV} {a b : Int} {vs : List V}, maxI xs a = some b → RelDs G ρ H xs vs → ∃ ns : List Int, vs = ns.map V.int ∧ a ≤ b ∧ (∀ y ∈ ns, y ≤ b) ∧ (b = a ∨ b ∈ ns)
  | [], a, b, vs, e, r => by
    cases e
    rw [rels_nil] at r; subst r
    exact ⟨[], rfl, by omega, fun y hy => (by cases hy), .inl rfl⟩
  | x :: xs, a, b, vs, e, r => by
    obtain ⟨v, us, rfl, r1, r2⟩ := rels_cons.mp r
    cases x with
    | int c =>
      have e : maxI xs (cnd (intLt a c) c a) = some b := e
      rw [rel_int] at r1; subst r1
      obtain ⟨ns, rfl, h2, h3, h4⟩ := maxI_of e r2
      rw [intLt_iff] at h2 h4
      by_cases h : a < c
      · rw [decide_eq_true h, cnd_true] at h2 h4
        refine ⟨c :: ns, rfl, by omega, fun y hy => ?_, .inr ?_⟩
        · rcases List.mem_cons.mp hy with rfl | hy
          · exact h2
          · exact h3 y hy
        · rcases h4 with rfl | h4
          · exact .head _
          · exact .tail _ h4
      · rw [decide_eq_false h, cnd_false] at h2 h4
        refine ⟨c :: ns, rfl, h2, fun y hy => ?_, ?_⟩
        · rcases List.mem_cons.mp hy with rfl | hy
          · omega
          · exact h3 y hy
        · rcases h4 with rfl | h4
          · exact .inl rfl
          · exact .inr (.tail _ h4)
    | _ => cases e
theorem minI_of {G : Gv} {ρ : List Loc} {H : Hp} : ∀ {xs : List DV} {a b : Int} {vs : List V}, minI xs a = some b → RelDs G ρ H xs vs → ∃ ns : List Int, vs = ns.map V.int ∧ b ≤ a ∧ (∀ y ∈ ns, b ≤ y) ∧ (b = a ∨ b ∈ ns)
  | [], a, b, vs, e, r => by
    cases e
    rw [rels_nil] at r; subst r
    exact ⟨[], rfl, by omega, fun y hy => (by cases hy), .inl rfl⟩
  | x :: xs, a, b, vs, e, r => by
    obtain ⟨v, us, rfl, r1, r2⟩ := rels_cons.mp r
    cases x with
    | int c =>
      have e : minI xs (cnd (intLt c a) c a) = some b := e
      rw [rel_int] at r1; subst r1
      obtain ⟨ns, rfl, h2, h3, h4⟩ := minI_of e r2
      rw [intLt_iff] at h2 h4
      by_cases h : c < a
      · rw [decide_eq_true h, cnd_true] at h2 h4
        refine ⟨c :: ns, rfl, by omega, fun y hy => ?_, .inr ?_⟩
        · rcases List.mem_cons.mp hy with rfl | hy
          · exact h2
          · exact h3 y hy
        · rcases h4 with rfl | h4
          · exact .head _
          · exact .tail _ h4
      · rw [decide_eq_false h, cnd_false] at h2 h4
        refine ⟨c :: ns, rfl, h2, fun y hy => ?_, ?_⟩
        · rcases List.mem_cons.mp hy with rfl | hy
          · omega
          · exact h3 y hy
        · rcases h4 with rfl | h4
          · exact .inl rfl
          · exact .inr (.tail _ h4)
    | _ => cases e
theorem onI_h' {x : DV} {f : Int → RH} {k : KV} (h : kh (onI none x f) k = true) : ∃ i, x = .int i ∧ kh (f i) k = true := onI_h h
theorem ok_max (hc : X.calm = true) : BcOk X (.builtin "max") bMax := by
  refine ⟨_, (cr_max hc).or (call_max2 hc), fun C ρ dh fr σ H ds vs k Q hX st rr ko h => ?_⟩
  subst hX
  cases ds with
  | nil => cases h
  | cons x r0 =>
    cases r0 with
    | nil =>
      obtain ⟨xs, e, h⟩ := onO_h (show kh (onO none (lstOf x dh) fun xs => List.casesOn xs none fun a s => onI none a fun a => intD (maxI s a) dh) k = true from h)
      obtain ⟨v, rfl, r⟩ := rels1 rr
      obtain ⟨a, us, rfl, h3, r1⟩ := lst_rel st r e
      cases xs with
      | nil => cases h
      | cons y s =>
        obtain ⟨i, rfl, h⟩ := onI_h (show kh (onI none y fun a => intD (maxI s a) dh) k = true from h)
        obtain ⟨b, e2, h⟩ := intD_h h
        obtain ⟨u, us, rfl, r2, r3⟩ := rels_cons.mp r1
        rw [rel_int] at r2; subst r2
        obtain ⟨ns, rfl, q1, q2, q3⟩ := maxI_of e2 r3
        refine .inl ⟨a, i :: ns, rfl, .inl (.inl h3), Nat.succ_pos _, fun m hm hy => ?_⟩
        have h1 : b ≤ m := hy b (by rcases q3 with rfl | q3; exact .head _; exact .tail _ q3)
        have h2 : m ≤ b := by
          rcases List.mem_cons.mp hm with rfl | hm
          · exact q1
          · exact q2 m hm
        rw [show m = b by omega]
        exact ko.now st (rel_int.mpr rfl) h
    | cons y s =>
      obtain ⟨y', e, h⟩ := on1_h (show kh (on1 (fun y h => onI none x fun a => onI none y fun b => some (.int (cnd (intLt a b) b a), h)) (y :: s) dh) k = true from h)
      cases e
      obtain ⟨v, w, rfl, r1, r2⟩ := rels2 rr
      obtain ⟨i, rfl, h⟩ := onI_h h
      obtain ⟨j, rfl, h⟩ := onI_h h
      rw [rel_int] at r1 r2; subst r1 r2
      refine .inr ⟨i, j, rfl, ko.now st (rel_int.mpr ?_) h⟩
      rw [intLt_iff]
      by_cases q : i < j
      · rw [decide_eq_true q, if_pos q]; rfl
      · rw [decide_eq_false q, if_neg q]; rfl
theorem ok_min (hc : X.calm = true) : BcOk X (.builtin "min") bMin := by
  refine ⟨_, (cr_min hc).or (call_min2 hc), fun C ρ dh fr σ H ds vs k Q hX st rr ko h => ?_⟩
  subst hX
  cases ds with
  | nil => cases h
  | cons x r0 =>
    cases r0 with
    | nil =>
      obtain ⟨xs, e, h⟩ := onO_h (show kh (onO none (lstOf x dh) fun xs => List.casesOn xs none fun a s => onI none a fun a => intD (minI s a) dh) k = true from h)
      obtain ⟨v, rfl, r⟩ := rels1 rr
      obtain ⟨a, us, rfl, h3, r1⟩ := lst_rel st r e
      cases xs with
      | nil => cases h
      | cons y s =>
        obtain ⟨i, rfl, h⟩ := onI_h (show kh (onI none y fun a => intD (minI s a) dh) k = true from h)
        obtain ⟨b, e2, h⟩ := intD_h h
        obtain ⟨u, us, rfl, r2, r3⟩ := rels_cons.mp r1
        rw [rel_int] at r2; subst r2
        obtain ⟨ns, rfl, q1, q2, q3⟩ := minI_of e2 r3
        refine .inl ⟨a, i :: ns, rfl, .inl (.inl h3), Nat.succ_pos _, fun m hm hy => ?_⟩
        have h1 : m ≤ b := hy b (by rcases q3 with rfl | q3; exact .head _; exact .tail _ q3)
        have h2 : b ≤ m := by
          rcases List.mem_cons.mp hm with rfl | hm
          · exact q1
          · exact q2 m hm
        rw [show m = b by omega]
        exact ko.now st (rel_int.mpr rfl) h
    | cons y s =>
      obtain ⟨y', e, h⟩ := on1_h (show kh (on1 (fun y h => onI none x fun a => onI none y fun b => some (.int (cnd (intLt b a) b a), h)) (y :: s) dh) k = true from h)
      cases e
      obtain ⟨v, w, rfl, r1, r2⟩ := rels2 rr
      obtain ⟨i, rfl, h⟩ := onI_h h
      obtain ⟨j, rfl, h⟩ := onI_h h
      rw [rel_int] at r1 r2; subst r1 r2
      refine .inr ⟨i, j, rfl, ko.now st (rel_int.mpr ?_) h⟩
      rw [intLt_iff]
      by_cases q : j < i
      · rw [decide_eq_true q, if_pos q]; rfl
      · rw [decide_eq_false q, if_neg q]; rfl
end Dz

set_option Elab.async false
set_option linter.all false
set_option maxRecDepth 100000
set_option maxHeartbeats 2000000
/-! Dz: methods of lists and dicts. -/
namespace Dz
open PySem L2
theorem PE.or {X : Cx} {e : Expr} {t t' : TE} (h : PE X e t) (h' : PE X e t') : PE X e (fun σ H Q => t σ H Q ∨ t' σ H Q) := ⟨fun pins s σ H Q I q => q.elim (h.run pins s σ H Q I) (h'.run pins s σ H Q I)⟩
/-- an object of the data is overwritten -/
theorem le_put {ρ : List Loc} {H : Hp} {a : Addr} {o u : HO} (hm : Loc.ob a ∈ ρ) (ha : H a = some o) (hc : ∀ φ, o ≠ .ext φ) : Le ρ H ρ (L2.upd H a u) := by
  have k : ∀ b φ, H b = some (.ext φ) → L2.upd H a u b = some (.ext φ) := fun b φ h => by
    rw [upd_ne]
    · exact h
    · intro e; subst e; rw [ha] at h; exact hc φ (Option.some.inj h)
  refine ⟨⟨[], by simp, fun _ z => absurd z (by simp)⟩, fun b w h n _ => ?_, fun b h => ?_, fun b w h => k b _ h, fun f L cl c h => k f _ h, fun c q h => k c _ h⟩
  · rw [upd_ne]
    · exact h
    · intro e; subst e; exact n hm
  · by_cases e : b = a
    · subst e; rw [upd_same] at h; cases h
    · rw [upd_ne e] at h; exact h
theorem tabs_put {T : List NdefX.NTab} {H : Hp} {a : Addr} {o u : HO} (h : NdefX.TabsN T H) (ha : H a = some o) (ht : ∀ ps, o ≠ .tbl ps) (hc : ∀ φ, o ≠ .ext φ) : NdefX.TabsN T (L2.upd H a u) := by
  refine fun t ht' => ?_
  obtain ⟨m, e, e2, e3⟩ := h t ht'
  refine ⟨m, ?_, e2, fun pos cv z => ?_⟩
  · rw [upd_ne]
    · exact e
    · intro z
      rw [z, ha] at e
      exact ht _ (Option.some.inj e)
  · obtain ⟨c, h1, h2⟩ := e3 pos cv z
    refine ⟨c, h1, ?_⟩
    rw [upd_ne]
    · exact h2
    · intro z
      rw [z, ha] at h2
      exact hc _ (Option.some.inj h2)
section
variable {G : Gv} {X : Cx} {n0 : Ent} {cs : List Nat} {ρ : List Loc} {dh : DH} {fr : Fr} {σ : L2.St} {H : Hp}
theorem st_put {i : Nat} {a : Addr} {o u : HO} {ob ob' : DObj} (st : StRel G X n0 cs ρ dh fr σ H) (e : ρ[i]? = some (.ob a)) (ha : H a = some o) (ht : ∀ ps, o ≠ .tbl ps) (hc : ∀ φ, o ≠ .ext φ) (hd : dh.get i = some ob) (hnc : ∀ d, ob ≠ .cell d) (hn : ∀ d, ob' ≠ .cell d)
    (ho : ObjRel G X n0 cs σ ρ (L2.upd H a u) i (.ob a) ob') : StRel G X n0 cs ρ (dh.put i ob') fr σ (L2.upd H a u) := by
  have le : Le ρ H ρ (L2.upd H a u) := le_put (List.mem_of_getElem? e) ha hc
  refine ⟨⟨?_, st.hr.nd, st.hr.low, fun j l ej => ?_, tabs_put st.hr.tabs ha ht hc⟩, st.sl.later st.hr.plain le (fun c d _ q => ?_), st.fl, st.wl, fun j hj o q => ?_⟩
  · rw [put_n]; exact st.hr.len
  · by_cases hj : j = i
    · subst hj
      rw [e] at ej; cases ej
      exact ⟨ob', get_put_same _ _ _, ho⟩
    · obtain ⟨w, h1, h2⟩ := st.hr.obj j l ej
      refine ⟨w, by rw [get_put_ne _ _ hj]; exact h1, h2.later st.hr.plain le fun b v hl hb => ?_⟩
      rw [upd_ne]
      · exact hb
      · intro z
        subst z; subst hl
        exact hj (st.hr.nd j i _ ej e)
  · by_cases hj : c = i
    · subst hj
      rw [get_put_same] at q
      exact absurd (Option.some.inj q) (hn d)
    · rw [get_put_ne _ _ hj] at q; exact q
  · have z := st.old j hj o q
    rw [get_put_ne]
    · exact z
    · intro w
      subst w
      rw [hd] at z
      exact hnc o (Option.some.inj z)
end
/-- a method's call, by the data -/
def MtOk (X : Cx) (id : String) (f : Me) : Prop := ∃ r : V → List V → Hp → VK → Prop, MtR X id r ∧
  ∀ (C : Sc) (ρ : List Loc) (dh : DH) (fr : Fr) (σ : L2.St) (H : Hp) (x : DV) (ds : List DV) (v : V) (vs : List V) (k : KV) (Q : VK), C.X = X → C.St ρ dh fr σ H → RelD C.G ρ H x v → RelDs C.G ρ H ds vs → C.KO ρ H fr σ k Q → kh (f x ds dh) k = true → r v vs H Q
section
variable {C : Sc} {ρ : List Loc} {dh : DH} {fr : Fr} {σ : L2.St} {H : Hp} {k : KV} {Q : VK}
theorem Sc.KO.put {i : Nat} {a : Addr} {d : DV} {v : V} {xs ys : List DV} {vs us : List V} (h : C.KO ρ H fr σ k Q) (st : C.St ρ dh fr σ H) (e : ρ[i]? = some (.ob a)) (ha : H a = some (.lst vs)) (hd : dh.get i = some (.lst xs)) (r : RelDs C.G ρ H ys us) (rd : RelD C.G ρ H d v)
    (q : k d (dh.put i (.lst ys)) = true) : Q v (L2.upd H a (.lst us)) := by
  have le : Le ρ H ρ (L2.upd H a (.lst us)) := le_put (List.mem_of_getElem? e) ha (fun φ z => nomatch z)
  refine h ρ _ _ d v (st_put (ob' := .lst ys) st e ha (fun φ z => nomatch z) (fun φ z => nomatch z) hd (fun d z => nomatch z) (fun d z => nomatch z) ?_) le (RelD.later st.hr.plain le rd) q
  show ∃ b ws, Loc.ob a = .ob b ∧ L2.upd H a (.lst us) b = some (.lst ws) ∧ RelDs C.G ρ (L2.upd H a (.lst us)) ys ws
  exact ⟨a, us, rfl, upd_same, RelDs.later st.hr.plain le r⟩
end
section
variable {C : Sc} {e o : Expr} {es : List Expr} {a : Ex} {t : Exs} {n : Nat} {fL fD : Me} {name : Str} {apos cpos : Pos} {idL idD : String}
theorem isL_of {b : Bool} {x : Option DObj} {f : Bool} (h : obL (obD false x fun _ => f) x (fun _ => b) = true) : (∃ xs, x = some (.lst xs) ∧ b = true) ∨ ∃ kvs, x = some (.dic kvs) ∧ f = true := by
  cases x with
  | none => cases h
  | some o => cases o <;> first | exact .inl ⟨_, rfl, h⟩ | exact .inr ⟨_, rfl, h⟩ | cases h
/-- what a method's call with arguments wants of its text -/
structure MtX (C : Sc) (o e : Expr) (es : List Expr) (name : Str) (apos cpos : Pos) : Prop where
  base : attributeBase o name C.X.env (eval o C.X.env) = eval o C.X.env
  few : ((backTo cpos (starEach (e :: es) C.X.env)).all (fun x => !x.1) && (backToKw cpos (keywordEach [] C.X.env)).all (fun x => x.1.isSome)
      && decide ((e :: es).length + ([] : List Keyword).length + (if ([] : List Keyword).isEmpty then 0 else 1) < 30)) = true
  line : (apos.endLine == cpos.line) = true
  star : starEach (e :: es) C.X.env = (false, eval e C.X.env) :: starEach es C.X.env
  plain : (backTo cpos (starEach es C.X.env)).any (·.1) = false
theorem tyL {i : Nat} {xs : List DV} {v : V} {ρ : List Loc} {dh : DH} {fr : Fr} {σ : L2.St} {H : Hp} (st : C.St ρ dh fr σ H) (r : RelD C.G ρ H (.ref i) v) (e : dh.get i = some (.lst xs)) : tyV C.X.K "list" v H := by
  obtain ⟨a, vs, rfl, _, h3, _⟩ := st_lst st r e
  exact .inl ⟨rfl, vs, .inl (.inl h3)⟩
theorem tyD {i : Nat} {xs : List DP} {v : V} {ρ : List Loc} {dh : DH} {fr : Fr} {σ : L2.St} {H : Hp} (st : C.St ρ dh fr σ H) (r : RelD C.G ρ H (.ref i) v) (e : dh.get i = some (.dic xs)) : tyV C.X.K "dict" v H := by
  obtain ⟨a, rfl, _, h3⟩ := st_dic st r e
  rcases h3 with ⟨ks, _, h3, _⟩ | ⟨ks, h3, _⟩
  · exact .inr (.inr (.inl ⟨rfl, .inl ⟨ks, h3⟩⟩))
  · exact .inr (.inr (.inl ⟨rfl, .inr ⟨ks, h3⟩⟩))
theorem obD_true {o : Option DObj} {f : List DP → Bool} (h : obD false o f = true) : ∃ xs, o = some (.dic xs) ∧ f xs = true := obD_of h
/-- o.m(e, ..) of a list -/
theorem se_mL (sl : Slot "list" name idL) (ty : typeOf (.builtin idL) = pure (.type "method_descriptor")) (hm : MtOk C.X idL fL) (ho : PE C.X o (C.E a)) (ha : PA C.X (e :: es) (C.Es n t)) (x : MtX C o e es name apos cpos) :
    PE C.X (.Call (.Attribute o name apos) (e :: es) [] cpos) (C.E (cML fL a t)) := by
  obtain ⟨r, h1, h2⟩ := hm
  refine pe_imp (pe_bm PySem.F.plainAttrs_list sl ty h1 ho ha x.base x.few x.line x.star x.plain) fun σ H Q ⟨ρ, dh, fr, kx, k, st, xo, ko, h⟩ => ?_
  refine E_then st xo h fun ρ1 dh1 H1 d v st1 le1 r1 h3 => ?_
  obtain ⟨i, rfl, h3⟩ := onR_of h3
  obtain ⟨xs, e1, h3⟩ := obL_true h3
  refine ⟨tyL st1 r1 e1, ?_⟩
  refine Es_then st1 (xo.later le1) h3 fun ρ2 dh2 H2 ds vs st2 le2 r2 z2 h4 => ?_
  exact h2 C ρ2 dh2 fr σ H2 _ ds v vs k Q rfl st2 (RelD.later st1.hr.plain le2 r1) r2 (ko.later (le1.trans le2)) h4
theorem se_mL0 (sl : Slot "list" name idL) (ty : typeOf (.builtin idL) = pure (.type "method_descriptor")) (hm : MtOk C.X idL fL) (ho : PE C.X o (C.E a))
    (hb : attributeBase o name C.X.env (eval o C.X.env) = eval o C.X.env) (hline : (apos.endLine == cpos.line) = true) :
    PE C.X (.Call (.Attribute o name apos) [] [] cpos) (C.E (cML fL a cNil)) := by
  obtain ⟨r, h1, h2⟩ := hm
  refine pe_imp (pe_bm0 PySem.F.plainAttrs_list sl ty h1 ho hb hline) fun σ H Q ⟨ρ, dh, fr, kx, k, st, xo, ko, h⟩ => ?_
  refine E_then st xo h fun ρ1 dh1 H1 d v st1 le1 r1 h3 => ?_
  obtain ⟨i, rfl, h3⟩ := onR_of h3
  obtain ⟨xs, e1, h3⟩ := obL_true h3
  exact ⟨tyL st1 r1 e1, h2 C ρ1 dh1 fr σ H1 _ [] v [] k Q rfl st1 r1 (rels_nil.mpr rfl) (ko.later le1) h3⟩
/-- o.m(e, ..) of a dict -/
theorem se_mD (sl : Slot "dict" name idD) (ty : typeOf (.builtin idD) = pure (.type "method_descriptor")) (hm : MtOk C.X idD fD) (ho : PE C.X o (C.E a)) (ha : PA C.X (e :: es) (C.Es n t)) (x : MtX C o e es name apos cpos) :
    PE C.X (.Call (.Attribute o name apos) (e :: es) [] cpos) (C.E (cMD fD a t)) := by
  obtain ⟨r, h1, h2⟩ := hm
  refine pe_imp (pe_bm PySem.F.plainAttrs_dict sl ty h1 ho ha x.base x.few x.line x.star x.plain) fun σ H Q ⟨ρ, dh, fr, kx, k, st, xo, ko, h⟩ => ?_
  refine E_then st xo h fun ρ1 dh1 H1 d v st1 le1 r1 h3 => ?_
  obtain ⟨i, rfl, h3⟩ := onR_of h3
  obtain ⟨xs, e1, h3⟩ := obD_of h3
  refine ⟨tyD st1 r1 e1, ?_⟩
  refine Es_then st1 (xo.later le1) h3 fun ρ2 dh2 H2 ds vs st2 le2 r2 z2 h4 => ?_
  exact h2 C ρ2 dh2 fr σ H2 _ ds v vs k Q rfl st2 (RelD.later st1.hr.plain le2 r1) r2 (ko.later (le1.trans le2)) h4
/-- of either -/
theorem se_mt (sl : Slot "list" name idL) (ty : typeOf (.builtin idL) = pure (.type "method_descriptor")) (sl' : Slot "dict" name idD) (ty' : typeOf (.builtin idD) = pure (.type "method_descriptor")) (hL : MtOk C.X idL fL) (hD : MtOk C.X idD fD)
    (ho : PE C.X o (C.E a)) (ha : PA C.X (e :: es) (C.Es n t)) (x : MtX C o e es name apos cpos) :
    PE C.X (.Call (.Attribute o name apos) (e :: es) [] cpos) (C.E (cMt fL fD a t)) := by
  obtain ⟨r, h1, h2⟩ := hL
  obtain ⟨r', h1', h2'⟩ := hD
  refine ⟨fun pins s σ H Q I ⟨ρ, dh, fr, kx, k, st, xo, ko, h⟩ => ?_⟩
  have q0 : C.E a σ H fun v H1 => (tyV C.X.K "list" v H1 ∧ C.Es n t σ H1 fun vs H2 => r v vs H2 Q) ∨ (tyV C.X.K "dict" v H1 ∧ C.Es n t σ H1 fun vs H2 => r' v vs H2 Q) := by
    refine E_then st xo h fun ρ1 dh1 H1 d v st1 le1 r1 h3 => ?_
    obtain ⟨i, rfl, h3⟩ := onR_of h3
    rcases isL_of h3 with ⟨xs, e1, h3⟩ | ⟨xs, e1, h3⟩
    · refine .inl ⟨tyL st1 r1 e1, ?_⟩
      refine Es_then st1 (xo.later le1) h3 fun ρ2 dh2 H2 ds vs st2 le2 r2 z2 h4 => ?_
      exact h2 C ρ2 dh2 fr σ H2 _ ds v vs k Q rfl st2 (RelD.later st1.hr.plain le2 r1) r2 (ko.later (le1.trans le2)) h4
    · refine .inr ⟨tyD st1 r1 e1, ?_⟩
      refine Es_then st1 (xo.later le1) h3 fun ρ2 dh2 H2 ds vs st2 le2 r2 z2 h4 => ?_
      exact h2' C ρ2 dh2 fr σ H2 _ ds v vs k Q rfl st2 (RelD.later st1.hr.plain le2 r1) r2 (ko.later (le1.trans le2)) h4
  have hp := x.plain
  have hs := x.star
  refine wpAny_Call_method_late x.base x.few x.line rfl (thn (ho.run pins s σ H _ I q0) fun v s1 ⟨w, H1, I1, r1, q⟩ => ?_)
  rcases q with ⟨tv, q1⟩ | ⟨tv, q1⟩
  · obtain ⟨z1, z2⟩ := tyV_is I1 r1 tv
    refine ⟨"list", idL, PySem.F.plainAttrs_list, sl, ty, z1, z2, ?_⟩
    have hA := ha.run cpos pins s1 σ H1 _ I1 q1
    rw [hs] at hA ⊢
    refine Calls.callWith_builtin (by show (false || (backTo cpos (starEach es C.X.env)).any (·.1)) = false; rw [hp] <;> rfl) (Calls.evalArgs_plain ?_)
    exact thn hA fun us s2 ⟨vs, H2, I2, r2, q2⟩ => h1 pins s2 σ H2 w vs v us Q I2 r1 r2 q2
  · obtain ⟨z1, z2⟩ := tyV_is I1 r1 tv
    refine ⟨"dict", idD, PySem.F.plainAttrs_dict, sl', ty', z1, z2, ?_⟩
    have hA := ha.run cpos pins s1 σ H1 _ I1 q1
    rw [hs] at hA ⊢
    refine Calls.callWith_builtin (by show (false || (backTo cpos (starEach es C.X.env)).any (·.1)) = false; rw [hp] <;> rfl) (Calls.evalArgs_plain ?_)
    exact thn hA fun us s2 ⟨vs, H2, I2, r2, q2⟩ => h1' pins s2 σ H2 w vs v us Q I2 r1 r2 q2
end
theorem MtOk.mm {X : Cx} {id : String} {r : V → List V → Hp → VK → Prop} (h : MtM X id r) : MtR X id r := h
theorem arg1_h {ds : List DV} {f : DV → RH} {k : KV} (e : kh (arg1 none ds f) k = true) : ∃ x, ds = [x] ∧ kh (f x) k = true := by
  cases ds with
  | nil => cases e
  | cons x r =>
    obtain ⟨e1, e⟩ := cnd_h (show kh (cnd (nilB r) (f x) none) k = true from e)
    rw [nilB_true e1]
    exact ⟨x, rfl, e⟩
theorem arg0_h {ds : List DV} {f : RH} {k : KV} (e : kh (arg0 none ds f) k = true) : ds = [] ∧ kh f k = true := by
  obtain ⟨e1, e⟩ := cnd_h (show kh (cnd (nilB ds) f none) k = true from e)
  exact ⟨nilB_true e1, e⟩
variable {X : Cx}
theorem ok_append : MtOk X "list.append" mAppend := by
  refine ⟨rAppend, mt_append, fun C ρ dh fr σ H x ds v vs k Q hX st r rr ko h => ?_⟩
  obtain ⟨i, rfl, h⟩ := onR_h h
  obtain ⟨xs, e1, h⟩ := obL_h h
  obtain ⟨y, rfl, h⟩ := arg1_h h
  obtain ⟨f, h⟩ := cnd_h h
  obtain ⟨w, rfl, ry⟩ := rels1 rr
  obtain ⟨a, us, rfl, ea, h3, r1⟩ := st_lst st r e1
  have f := fits_le f
  rw [lenN_eq] at f
  rw [app_eq] at h
  exact ⟨a, us, w, rfl, rfl, h3, by rw [← rels_length r1]; exact f, ko.put st ea h3 e1 (rels_app r1 (rels_cons.mpr ⟨w, [], rfl, ry, rels_nil.mpr rfl⟩)) (rel_non.mpr rfl) h⟩
theorem ok_extend : MtOk X "list.extend" mExtend := by
  refine ⟨rExtend, mt_extend, fun C ρ dh fr σ H x ds v vs k Q hX st r rr ko h => ?_⟩
  obtain ⟨i, rfl, h⟩ := onR_h h
  obtain ⟨xs, e1, h⟩ := obL_h h
  obtain ⟨y, rfl, h⟩ := arg1_h h
  obtain ⟨ys, e2, h⟩ := onO_h h
  obtain ⟨f, h⟩ := cnd_h h
  obtain ⟨w, rfl, ry⟩ := rels1 rr
  obtain ⟨a, us, rfl, ea, h3, r1⟩ := st_lst st r e1
  obtain ⟨b, ws, rfl, h4, r2⟩ := lst_rel st ry e2
  have f := both_le f
  rw [app_eq] at h
  exact ⟨a, b, us, ws, rfl, rfl, h3, h4, by rw [← rels_length r1, ← rels_length r2]; exact f, ko.put st ea h3 e1 (rels_app r1 r2) (rel_non.mpr rfl) h⟩
theorem rels_erase {G : Gv} {ρ : List Loc} {H : Hp} : ∀ {xs : List DV} {vs : List V} (n : Nat), RelDs G ρ H xs vs → RelDs G ρ H (xs.eraseIdx n) (vs.eraseIdx n)
  | [], vs, _, h => by rw [rels_nil] at h; subst h; exact rels_nil.mpr rfl
  | x :: xs, vs, 0, h => by
    obtain ⟨u, r, rfl, _, h⟩ := rels_cons.mp h
    exact h
  | x :: xs, vs, n + 1, h => by
    obtain ⟨u, r, rfl, h1, h⟩ := rels_cons.mp h
    exact rels_cons.mpr ⟨u, r.eraseIdx n, rfl, h1, rels_erase n h⟩
theorem erase_eq (xs : List DV) (n : Nat) : app (takeN n xs) (dropN (Nat.succ n) xs) = xs.eraseIdx n := by
  rw [app_eq, takeN_eq, dropN_eq, List.eraseIdx_eq_take_drop_succ]
theorem ok_popL : MtOk X "list.pop" mPopL := by
  refine ⟨_, MtR.or (r := rPop) (r' := rPopAt) mt_pop mt_popAt, fun C ρ dh fr σ H x ds v vs k Q hX st r rr ko h => ?_⟩
  obtain ⟨i, rfl, h⟩ := onR_h h
  obtain ⟨xs, e1, h⟩ := obL_h h
  obtain ⟨a, us, rfl, ea, h3, r1⟩ := st_lst st r e1
  cases ds with
  | nil =>
    rw [rels_nil] at rr; subst rr
    obtain ⟨n, e2, h⟩ := onO_h (show kh (onO none (ixOf (lenN xs) (.negSucc 0)) fun n => popAt i xs dh n) k = true from h)
    obtain ⟨d, e3, h⟩ := onO_h h
    rw [nth_eq] at e3
    rw [erase_eq] at h
    obtain ⟨w, e4, rw'⟩ := rels_get r1 e3
    have hn : n = us.length - 1 ∧ 0 < us.length := by
      have e2 : cnd (Nat.ble (0 + 1) (lenN xs)) (some (lenN xs - (0 + 1))) none = some n := e2
      rw [lenN_eq, rels_length r1] at e2
      cases q : Nat.ble (0 + 1) us.length with
      | false => rw [q] at e2; cases e2
      | true =>
        rw [q] at e2; cases e2
        exact ⟨rfl, Nat.le_of_ble_eq_true q⟩
    refine .inl ⟨a, us, w, rfl, rfl, h3, by rw [← hn.1]; exact e4, ?_⟩
    have z : us.dropLast = us.eraseIdx n := by rw [hn.1, List.eraseIdx_eq_dropLast (by omega)]
    rw [z]
    exact ko.put st ea h3 e1 (rels_erase n r1) rw' h
  | cons y ds =>
    obtain ⟨e0, h⟩ := arg0_h (show kh (arg0 none ds (onI none y fun k => cnd (small62 k) (onO none (ixOf (lenN xs) k) fun n => popAt i xs dh n) none)) k = true from h)
    subst e0
    obtain ⟨j, rfl, h⟩ := onI_h h
    obtain ⟨f, h⟩ := cnd_h h
    obtain ⟨n, e2, h⟩ := onO_h h
    obtain ⟨d, e3, h⟩ := onO_h h
    obtain ⟨w0, rfl, ry⟩ := rels1 rr
    rw [rel_int] at ry; subst ry
    rw [nth_eq] at e3
    rw [erase_eq] at h
    rw [lenN_eq, rels_length r1, ixOf_eq] at e2
    obtain ⟨w, e4, rw'⟩ := rels_get r1 e3
    have f := Nat.le_of_ble_eq_true f
    have f2 : j.natAbs < 2 ^ 62 := by
      by_cases z : j.natAbs = 0
      · rw [z]; decide
      · exact (Nat.log2_lt z).mp (by omega)
    refine .inr ⟨a, us, j, n, w, rfl, rfl, h3, by omega, by omega, (ixN_seq e2).1, e4, ko.put st ea h3 e1 (rels_erase n r1) rw' h⟩
end Dz

set_option Elab.async false
set_option linter.all false
set_option maxRecDepth 100000
set_option maxHeartbeats 2000000
/-! Dz: targets and statements. -/
namespace Dz
open PySem L2
section
variable {C : Sc} {ρ ρ' : List Loc} {dh : DH} {fr : Fr} {σ : L2.St} {H H' : Hp}
theorem set_get {α : Type} {xs : List α} {i j : Nat} {a b : α} (h : (xs.set i a)[j]? = some b) : (j = i ∧ b = a ∧ i < xs.length) ∨ (j ≠ i ∧ xs[j]? = some b) := by
  rw [List.getElem?_set] at h
  by_cases e : i = j
  · subst e
    rw [if_pos rfl] at h
    by_cases z : i < xs.length
    · rw [if_pos z] at h
      exact .inl ⟨rfl, (Option.some.inj h).symm, z⟩
    · rw [if_neg z] at h; cases h
  · rw [if_neg e] at h
    exact .inr ⟨fun z => e z.symm, h⟩
theorem get_set_same {α : Type} {xs : List α} {i : Nat} {a : α} (h : i < xs.length) : (xs.set i a)[i]? = some a := by
  rw [List.getElem?_set, if_pos rfl, if_pos h]
theorem get_set_ne {α : Type} {xs : List α} {i j : Nat} {a : α} (h : j ≠ i) : (xs.set i a)[j]? = xs[j]? := by
  rw [List.getElem?_set, if_neg fun e => h e.symm]
/-- a plain name takes a value -/
theorem st_name {i : Nat} {d : DV} {v : V} (st : C.St ρ dh fr σ H) (hi : i ∉ C.cs) (r : RelD C.G ρ H d v) : C.St ρ dh (setAt fr i (some d)) (σ.set i (some v)) H := by
  refine ⟨⟨st.hr.len, st.hr.nd, st.hr.low, fun j l e => ?_, st.hr.tabs⟩, fun j d' e => ?_, ?_, by rw [List.length_set]; exact st.wl, st.old⟩
  · obtain ⟨o, h1, h2⟩ := st.hr.obj j l e
    refine ⟨o, h1, ?_⟩
    cases o with
    | lst xs => exact h2
    | dic kvs => exact h2
    | pot => exact h2
    | busy kvs => exact h2
    | cell od =>
      obtain ⟨a, ov, h0, c, h⟩ := h2
      refine ⟨a, ov, h0, ?_, h⟩
      cases c with
      | own m x hj hm hc hv hfn hs =>
        refine .own m x hj hm hc hv hfn fun w hw => ?_
        rw [get_set_ne]
        · exact hs w hw
        · intro z; subst z
          exact hi hm
      | st o w hi ho hd hH hf he hv => exact .st o w hi ho hd hH hf he hv
      | tr o w hH hd hv => exact .tr o w hH hd hv
  · rw [setAt_eq] at e
    rcases set_get e with ⟨rfl, e2, z⟩ | ⟨n, e⟩
    · cases e2
      exact .inl ⟨hi, v, get_set_same (by rw [← st.fl]; exact z), r⟩
    · rcases st.sl j d' e with ⟨h1, w, h2, h3⟩ | ⟨h1, c, a, x, h2, h3, h4, h5, h6, h8, h7⟩
      · exact .inl ⟨h1, w, by rw [get_set_ne n]; exact h2, h3⟩
      · refine .inr ⟨h1, c, a, x, h2, h3, h4, h5, h6, h8, fun d2 e2 => ?_⟩
        obtain ⟨w, q1, q2⟩ := h7 d2 e2
        exact ⟨w, by rw [get_set_ne n]; exact q1, q2⟩
  · rw [setAt_eq, List.length_set, List.length_set]; exact st.fl
/-- a name that is a cell takes a value -/
theorem st_cell {i c : Nat} {x0 : Str} {d : DV} {v : V} (st : C.St ρ dh fr σ H) (hi : i ∈ C.cs) (hx0 : C.X.N[i]? = some x0) (hk : C.X.env.scope.names.lookup x0 = some .cell) (hkf : C.X.fn x0 = true) (hf : fr[i]? = some (some (.ref c))) (r : RelD C.G ρ H d v) : C.St ρ (dh.put c (.cell (some d))) fr (σ.set i (some v)) H := by
  rcases st.sl i _ hf with ⟨z, _⟩ | ⟨_, c', a, x, e0, h3, h4, h5, h6, h8, h7⟩
  · exact absurd hi z
  cases e0
  have hc0 : C.n0.n ≤ c := h8 (by rw [h4] at hx0; cases hx0; exact hkf)
  have hlt : i < σ.length := by rw [← st.fl]; exact (List.getElem?_eq_some_iff.mp hf).1
  refine ⟨⟨by rw [put_n]; exact st.hr.len, st.hr.nd, st.hr.low, fun j l e => ?_, st.hr.tabs⟩, fun j d' e => ?_, by rw [List.length_set]; exact st.fl, by rw [List.length_set]; exact st.wl, fun j hj o e => ?_⟩
  · by_cases hj : j = c
    · subst hj
      rw [h3] at e; cases e
      refine ⟨_, get_put_same _ _ _, ?_⟩
      show ∃ b ov, Loc.ce a = .ce b ∧ CK C.X C.n0 C.cs (σ.set i (some v)) H j b ov ∧ ∀ d', some d = some d' → ∃ w, ov = some w ∧ RelD C.G ρ H d' w
      refine ⟨a, some v, rfl, .own i x h4 hi h5 (by rw [h4] at hx0; cases hx0; exact hk) (by rw [h4] at hx0; cases hx0; exact hkf) fun w hw => ?_, fun d' e => ?_⟩
      · cases hw; exact get_set_same hlt
      · cases e; exact ⟨v, rfl, r⟩
    · obtain ⟨o, h1, h2⟩ := st.hr.obj j l e
      refine ⟨o, by rw [get_put_ne _ _ hj]; exact h1, ?_⟩
      cases o with
      | lst xs => exact h2
      | dic kvs => exact h2
      | pot => exact h2
      | busy kvs => exact h2
      | cell od =>
        obtain ⟨b, ov, h0, ck, h⟩ := h2
        refine ⟨b, ov, h0, ?_, h⟩
        cases ck with
        | own m y hm hmc hc hv hfn hs =>
          refine .own m y hm hmc hc hv hfn fun w hw => ?_
          rw [get_set_ne]
          · exact hs w hw
          · intro z; subst z
            rw [h4] at hm; cases hm
            rw [h5] at hc; cases hc
            subst h0
            exact hj (st.hr.nd j c _ e h3)
        | st o w hi ho hd hH hf he hv => exact .st o w hi ho hd hH hf he hv
        | tr o w hH hd hv => exact .tr o w hH hd hv
  · rcases st.sl j d' e with ⟨h1, w, h2, h3'⟩ | ⟨h1, c2, a2, x2, q2, q3, q4, q5, q6, q8, q7⟩
    · refine .inl ⟨h1, w, ?_, h3'⟩
      rw [get_set_ne]
      · exact h2
      · intro z; subst z; exact h1 hi
    · refine .inr ⟨h1, c2, a2, x2, q2, q3, q4, q5, q6, q8, fun d2 e2 => ?_⟩
      by_cases hj : c2 = c
      · subst hj
        rw [get_put_same] at e2; cases e2
        rw [h3] at q3; cases q3
        have hx := C.hinj _ _ _ h5 q5
        subst hx
        have hij : j = i := by
          obtain ⟨b1, g1⟩ := List.getElem?_eq_some_iff.mp q4
          obtain ⟨b2, g2⟩ := List.getElem?_eq_some_iff.mp h4
          exact (List.getElem_inj C.hN).mp (g1.trans g2.symm)
        subst hij
        exact ⟨v, get_set_same hlt, r⟩
      · rw [get_put_ne _ _ hj] at e2
        obtain ⟨w, z1, z2⟩ := q7 d2 e2
        refine ⟨w, ?_, z2⟩
        rw [get_set_ne]
        · exact z1
        · intro z; subst z
          rw [h4] at q4; cases q4
          rw [h5] at q5; cases q5
          exact hj (st.hr.nd c2 c _ q3 h3)
  · rw [get_put_ne _ _ (by omega)]; exact st.old j hj o e
end
/-! ### targets -/
def Sc.KNO (C : Sc) (ρ : List Loc) (H : Hp) (k : KN) (P : L2.St → Hp → Prop) : Prop := ∀ ρ' dh' fr' σ' H', C.St ρ' dh' fr' σ' H' → Le ρ H ρ' H' → k fr' dh' = true → P σ' H'
theorem Sc.KNO.later {C : Sc} {ρ ρ' : List Loc} {H H' : Hp} {k : KN} {P : L2.St → Hp → Prop} (h : C.KNO ρ H k P) (le : Le ρ H ρ' H') : C.KNO ρ' H' k P := fun ρ2 dh2 fr2 σ2 H2 st l q => h ρ2 dh2 fr2 σ2 H2 st (le.trans l) q
/-- .. where no slot but those of ss has changed -/
def Sc.KNT (C : Sc) (ss : List Nat) (ρ : List Loc) (H : Hp) (σ : L2.St) (k : KN) (P : L2.St → Hp → Prop) : Prop := ∀ ρ' dh' fr' σ' H', C.St ρ' dh' fr' σ' H' → Le ρ H ρ' H' → (∀ i, i ∉ ss → σ'[i]? = σ[i]?) → k fr' dh' = true → P σ' H'
theorem Sc.KNO.knt {C : Sc} {ss : List Nat} {ρ : List Loc} {H : Hp} {σ : L2.St} {k : KN} {P : L2.St → Hp → Prop} (h : C.KNO ρ H k P) : C.KNT ss ρ H σ k P := fun ρ2 dh2 fr2 σ2 H2 st l _ q => h ρ2 dh2 fr2 σ2 H2 st l q
def Sc.Tg (C : Sc) (ss : List Nat) (g : Gx) : TG := fun v σ H P => ∃ ρ dh fr d k, C.St ρ dh fr σ H ∧ RelD C.G ρ H d v ∧ C.KNT ss ρ H σ k P ∧ g d fr dh k = true
def Sc.Tgs (C : Sc) (ss : List Nat) (n : Nat) (g : Gxs) : TGs := fun vs σ H P => ∃ ρ dh fr ds k, C.St ρ dh fr σ H ∧ RelDs C.G ρ H ds vs ∧ ds.length = n ∧ C.KNT ss ρ H σ k P ∧ g ds fr dh k = true
theorem pg_imp {X : Cx} {e : Expr} {t t' : TG} (h : PG X e t) (i : ∀ v σ H Q, t' v σ H Q → t v σ H Q) : PG X e t' := ⟨fun pins s σ H v u Q I r q => h.run pins s σ H v u Q I r (i _ _ _ _ q)⟩
theorem pgs_imp {X : Cx} {e : List Expr} {t t' : TGs} (h : PGs X e t) (i : ∀ v σ H Q, t' v σ H Q → t v σ H Q) : PGs X e t' := ⟨fun pins s σ H v u Q I r q => h.run pins s σ H v u Q I r (i _ _ _ _ q)⟩
section
variable {C : Sc} {ss : List Nat} {e : Expr} {es : List Expr} {g : Gx} {gs : Gxs} {x : Str} {i n : Nat} {pos : Pos}
theorem sg_name (hi : C.X.N[i]? = some x) (hx : L2.Loc C.X.env.scope x) (hc : i ∉ C.cs) (his : i ∈ ss) (hf : C.X.fn x = true ∨ C.X.env.scope.names.lookup x = some .local) : PG C.X (.Name x pos) (C.Tg ss (gNm i)) :=
  pg_imp (pg_name C.hN hi hx hf) fun v σ H P ⟨ρ, dh, fr, d, k, st, r, ko, h⟩ => ko ρ dh _ _ H (st_name st hc r) (Le.refl _ _) (fun j hj => get_set_ne fun z => hj (z ▸ his)) h
theorem sg_cell (hi : C.X.N[i]? = some x) (hx : C.X.env.scope.names.lookup x = some .cell) (hc : i ∈ C.cs) (his : i ∈ ss) (hf : C.X.fn x = true) : PG C.X (.Name x pos) (C.Tg ss (gCell i)) :=
  pg_imp (pg_name C.hN hi (.inr hx) (.inl hf)) fun v σ H P ⟨ρ, dh, fr, d, k, st, r, ko, h⟩ => by
    obtain ⟨d', e, h⟩ := slot_of h
    obtain ⟨c, rfl, h⟩ := onR_of h
    exact ko ρ _ fr _ H (st_cell st hc hi hx hf e r) (Le.refl _ _) (fun j hj => get_set_ne fun z => hj (z ▸ his)) h
theorem sg_nil : PGs C.X [] (C.Tgs ss 0 gNil) := pgs_imp pgs_nil fun vs σ H P ⟨ρ, dh, fr, ds, k, st, r, z, ko, h⟩ => by
  obtain ⟨e, h⟩ := cnd_and h
  have := nilB_true e
  subst this
  exact ⟨rels_nil.mp r, ko ρ dh fr σ H st (Le.refl _ _) (fun _ _ => rfl) h⟩
theorem sg_cons (h1 : PG C.X e (C.Tg ss g)) (h2 : PGs C.X es (C.Tgs ss n gs)) (hs : (assignEach (e :: es) C.X.env).map (·.2) = assign e C.X.env :: (assignEach es C.X.env).map (·.2)) : PGs C.X (e :: es) (C.Tgs ss (n + 1) (gCons g gs)) :=
  pgs_imp (pgs_cons h1 h2 hs) fun vs σ H P ⟨ρ, dh, fr, ds, k, st, r, z, ko, h⟩ => by
    cases ds with
    | nil => cases h
    | cons d ds =>
      obtain ⟨v, us, rfl, r1, r2⟩ := rels_cons.mp r
      refine ⟨v, us, rfl, ρ, dh, fr, d, _, st, r1, fun ρ1 dh1 fr1 σ1 H1 st1 le1 hs1 h1 => ?_, h⟩
      exact ⟨ρ1, dh1, fr1, ds, k, st1, RelDs.later st.hr.plain le1 r2, by simpa using z, fun ρ2 dh2 fr2 σ2 H2 st2 le2 hs2 h2 => ko ρ2 dh2 fr2 σ2 H2 st2 (le1.trans le2) (fun j hj => (hs2 j hj).trans (hs1 j hj)) h2, h1⟩

theorem sg_tup {j : Nat} (hc : C.X.calm = true) (h : PGs C.X es (C.Tgs ss n gs)) (hn : (assignEach es C.X.env).length = n) (hst : (assignEach es C.X.env).findIdx? (·.1) = none) : PG C.X (.Tuple es j pos) (C.Tg ss (gTup n gs)) :=
  pg_imp (pg_tup hc h hn hst) fun v σ H P ⟨ρ, dh, fr, d, k, st, r, ko, h⟩ => by
    obtain ⟨xs, rfl, h⟩ := onT_of h
    obtain ⟨z, h⟩ := cnd_and h
    obtain ⟨a, vs, rfl, s, r1⟩ := rel_tup.mp r
    have z := Nat.eq_of_beq_eq_true z
    rw [lenN_eq] at z
    exact ⟨a, vs, rfl, C.sq s, by rw [← rels_length r1]; exact z, ρ, dh, fr, xs, k, st, r1, z, ko, h⟩
end
end Dz

set_option Elab.async false
set_option linter.all false
set_option maxRecDepth 100000
set_option maxHeartbeats 2000000
/-! Dz: statements; loops. -/
namespace Dz
open PySem L2
def Sc.KEO (C : Sc) (ρ : List Loc) (H : Hp) (ex : KE) : Prop := ∀ ρ' dh' fr' σ' H' c fs cls dx, C.St ρ' dh' fr' σ' H' → Le ρ H ρ' H' → RelX C.G ρ' H' c fs cls dx → ex c fs fr' dh' = true → C.W cls dx σ' H'
def Sc.KRO (C : Sc) (ρ : List Loc) (H : Hp) (rt : KV) (P : VK) : Prop := ∀ ρ' dh' fr' σ' H' d v, C.St ρ' dh' fr' σ' H' → Le ρ H ρ' H' → RelD C.G ρ' H' d v → rt d dh' = true → P v H'
def Sc.S (C : Sc) (t : Sx) : TS := fun D σ H => ∃ ρ dh fr nx rt ex bk ct, C.St ρ dh fr σ H ∧ C.KNO ρ H nx D.nx ∧ C.KRO ρ H rt D.rt ∧ C.KEO ρ H ex ∧ C.KNO ρ H bk D.bk ∧ C.KNO ρ H ct D.ct ∧ t fr dh nx rt ex bk ct = true
theorem ps_imp {X : Cx} {s : Stmt} {t t' : TS} (h : PS X s t) (i : ∀ D σ H, t' D σ H → t D σ H) : PS X s t' := ⟨fun pins s σ H D I q => h.run pins s σ H D I (i _ _ _ q)⟩
theorem pss_imp {X : Cx} {s : List Stmt} {t t' : TS} (h : PSs X s t) (i : ∀ D σ H, t' D σ H → t D σ H) : PSs X s t' := ⟨fun pins s σ H D I q => h.run pins s σ H D I (i _ _ _ q)⟩
section
variable {C : Sc} {ρ ρ' : List Loc} {dh dh' : DH} {fr : Fr} {σ : L2.St} {H H' : Hp} {ex : KE}
theorem Sc.KEO.later (h : C.KEO ρ H ex) (le : Le ρ H ρ' H') : C.KEO ρ' H' ex := fun ρ2 dh2 fr2 σ2 H2 c fs cls dx st l r q => h ρ2 dh2 fr2 σ2 H2 c fs cls dx st (le.trans l) r q
theorem Sc.KRO.later {rt : KV} {P : VK} (h : C.KRO ρ H rt P) (le : Le ρ H ρ' H') : C.KRO ρ' H' rt P := fun ρ2 dh2 fr2 σ2 H2 d v st l r q => h ρ2 dh2 fr2 σ2 H2 d v st (le.trans l) r q
theorem Sc.KEO.xo (h : C.KEO ρ H ex) : C.XO ρ H fr σ (kxOf ex fr) := fun ρ2 dh2 H2 c fs cls dx st l r q => h ρ2 dh2 fr σ H2 c fs cls dx st l r q
end
section
variable {C : Sc} {e : Expr} {st : Stmt} {sts sts2 : List Stmt} {a b : Sx} {x : Ex} {t : Tx} {g : Gx} {pos : Pos}
theorem s_nil : PSs C.X [] (C.S sNil) := pss_imp pss_nil fun D σ H ⟨ρ, dh, fr, nx, rt, ex, bk, ct, st, kn, kr, ke, kb, kc, h⟩ => kn ρ dh fr σ H st (Le.refl _ _) h
theorem s_one (h : PS C.X st (C.S a)) : PSs C.X [st] (C.S a) := pss_one h
theorem s_cons (h1 : PS C.X st (C.S a)) (h2 : PSs C.X sts (C.S b)) : PSs C.X (st :: sts) (C.S (sSeq a b)) := pss_imp (pss_cons h1 h2) fun D σ H ⟨ρ, dh, fr, nx, rt, ex, bk, ct, st, kn, kr, ke, kb, kc, h⟩ =>
  ⟨ρ, dh, fr, _, rt, ex, bk, ct, st, fun ρ1 dh1 fr1 σ1 H1 st1 le1 h1 => ⟨ρ1, dh1, fr1, nx, rt, ex, bk, ct, st1, kn.later le1, kr.later le1, ke.later le1, kb.later le1, kc.later le1, h1⟩, kr, ke, kb, kc, h⟩
theorem s_pass : PS C.X (.Pass pos) (C.S sPass) := ps_imp ps_pass fun D σ H ⟨ρ, dh, fr, nx, rt, ex, bk, ct, st, kn, kr, ke, kb, kc, h⟩ => kn ρ dh fr σ H st (Le.refl _ _) h
theorem s_brk : PS C.X (.Break pos) (C.S sBrk) := ps_imp ps_break fun D σ H ⟨ρ, dh, fr, nx, rt, ex, bk, ct, st, kn, kr, ke, kb, kc, h⟩ => kb ρ dh fr σ H st (Le.refl _ _) h
theorem s_cont : PS C.X (.Continue pos) (C.S sCont) := ps_imp ps_continue fun D σ H ⟨ρ, dh, fr, nx, rt, ex, bk, ct, st, kn, kr, ke, kb, kc, h⟩ => kc ρ dh fr σ H st (Le.refl _ _) h
theorem s_expr (he : PE C.X e (C.E x)) (hs : swapsWith e none pos.line C.X.env = pure false) : PS C.X (.Expr e pos) (C.S (sExpr x)) := ps_imp (ps_expr he hs) fun D σ H ⟨ρ, dh, fr, nx, rt, ex, bk, ct, st, kn, kr, ke, kb, kc, h⟩ =>
  E_then st ke.xo h fun ρ1 dh1 H1 d v st1 le1 r1 h1 => kn ρ1 dh1 fr σ H1 st1 le1 h1
theorem s_ret (he : PE C.X e (C.E x)) : PS C.X (.Return (some e) pos) (C.S (sRet x)) := ps_imp (ps_ret he) fun D σ H ⟨ρ, dh, fr, nx, rt, ex, bk, ct, st, kn, kr, ke, kb, kc, h⟩ =>
  E_then st ke.xo h fun ρ1 dh1 H1 d v st1 le1 r1 h1 => kr ρ1 dh1 fr σ H1 d v st1 le1 r1 h1
theorem s_if (ht : PT C.X e (C.T t)) (ha : PSs C.X sts (C.S a)) (hb : PSs C.X sts2 (C.S b)) : PS C.X (.If e sts sts2 pos) (C.S (sIf t a b)) := ps_imp (ps_if ht ha hb) fun D σ H ⟨ρ, dh, fr, nx, rt, ex, bk, ct, st, kn, kr, ke, kb, kc, h⟩ => by
  refine T_then st ke.xo h fun ρ1 dh1 H1 c st1 le1 h1 => ?_
  cases c with
  | true => exact ⟨ρ1, dh1, fr, nx, rt, ex, bk, ct, st1, kn.later le1, kr.later le1, ke.later le1, kb.later le1, kc.later le1, h1⟩
  | false => exact ⟨ρ1, dh1, fr, nx, rt, ex, bk, ct, st1, kn.later le1, kr.later le1, ke.later le1, kb.later le1, kc.later le1, h1⟩
theorem s_asg {ss : List Nat} {tg : Expr} (he : PE C.X e (C.E x)) (hg : PG C.X tg (C.Tg ss g)) (hs : swapsWithSole [tg] e pos.line C.X.env = pure false) (hw : swappedStores [tg] e C.X.env = pure none)
    (h1 : (assignEach [tg] C.X.env).map (·.2) = [assign tg C.X.env]) : PS C.X (.Assign [tg] e pos) (C.S (sAsg g x)) := ps_imp (ps_asg he hg hs hw h1) fun D σ H ⟨ρ, dh, fr, nx, rt, ex, bk, ct, st, kn, kr, ke, kb, kc, h⟩ =>
  E_then st ke.xo h fun ρ1 dh1 H1 d v st1 le1 r1 h1 => ⟨ρ1, dh1, fr, d, nx, st1, r1, (kn.later le1).knt, h1⟩
/-! ### while -/
theorem s_while (hp : PassesOwn (model C.X.prog C.X.w) C.X.A C.X.env C.X.xe) (ht : PT C.X e (C.T t)) (hb : PSs C.X sts (C.S b)) : PS C.X (.While e sts [] pos) (C.S (sWhile t b)) := ps_imp (ps_while hp ht hb) fun D σ H ⟨ρ, dh, fr, nx, rt, ex, bk, ct, st, kn, kr, ke, kb, kc, h⟩ => by
  refine ⟨fun m σ' H' => ∃ ρ' dh' fr', C.St ρ' dh' fr' σ' H' ∧ Le ρ H ρ' H' ∧ whLoop t b nx rt ex m fr' dh' = true, ⟨lcF, ρ, dh, fr, st, Le.refl _ _, h⟩, fun m σ' H' ⟨ρ', dh', fr', st', le', h'⟩ => ?_⟩
  cases m with
  | zero => cases h'
  | succ m =>
    refine T_then st' (ke.later le').xo (show t fr' dh' (kxOf ex fr') _ = true from h') fun ρ1 dh1 H1 c st1 le1 h1 => ?_
    have le2 := le'.trans le1
    cases c with
    | false => exact kn ρ1 dh1 fr' σ' H1 st1 le2 h1
    | true =>
      have again : C.KNO ρ1 H1 (whLoop t b nx rt ex m) (fun σ2 H2 => ∃ ρ' dh' fr', C.St ρ' dh' fr' σ2 H2 ∧ Le ρ H ρ' H2 ∧ whLoop t b nx rt ex m fr' dh' = true) := fun ρ2 dh2 fr2 σ2 H2 st2 l2 h2 => ⟨ρ2, dh2, fr2, st2, le2.trans l2, h2⟩
      exact ⟨_, fun σ2 H2 h2 => ⟨m, Nat.lt_succ_self m, h2⟩, ρ1, dh1, fr', _, rt, ex, nx, _, st1, again, kr.later le2, ke.later le2, kn.later le2, again, h1⟩
end
/-! ### what is walked -/
def RelIt (G : Gv) (K : PySem.W.Frag) (ρ : List Loc) (H : Hp) (j : It) (J : L2.It) : Prop := ∀ (C : Sc), C.G = G → C.X.K = K → ∀ ρ' dh' fr' σ' H' i, C.St ρ' dh' fr' σ' H' → Le ρ H ρ' H' →
  (j.nxt i dh' = some none → J.stop i H') ∧ ∀ d, j.nxt i dh' = some (some d) → J.go i H' ∧ ∀ x H2, J.yld i H' x H2 → C.St ρ' dh' fr' σ' H2 ∧ Le ρ' H' ρ' H2 ∧ RelD C.G ρ' H2 d x
theorem RelIt.later {G : Gv} {K : PySem.W.Frag} {ρ ρ' : List Loc} {H H' : Hp} {j : It} {J : L2.It} (h : RelIt G K ρ H j J) (le : Le ρ H ρ' H') : RelIt G K ρ' H' j J := fun C hG hK ρ2 dh2 fr2 σ2 H2 i st l => h C hG hK ρ2 dh2 fr2 σ2 H2 i st (le.trans l)
def Sc.KIO (C : Sc) (ρ : List Loc) (H : Hp) (fr : Fr) (σ : L2.St) (k : KI) (R : L2.It → Hp → Prop) : Prop := ∀ ρ' dh' H' j J, C.St ρ' dh' fr σ H' → Le ρ H ρ' H' → RelIt C.G C.X.K ρ' H' j J → k j dh' = true → R J H'
def Sc.I (C : Sc) (t : Ix) : TI := fun σ H R => ∃ ρ dh fr kx k, C.St ρ dh fr σ H ∧ C.XO ρ H fr σ kx ∧ C.KIO ρ H fr σ k R ∧ t fr dh kx k = true
theorem pi_imp {X : Cx} {tg e : Expr} {t t' : TI} (h : PI X tg e t) (i : ∀ σ H Q, t' σ H Q → t σ H Q) : PI X tg e t' := ⟨fun pins s σ H R I q => h.run pins s σ H R I (i _ _ _ q)⟩
theorem turn_of {o : OI} {z : Bool} {k : DV → Bool} (h : turn o z k = true) : (o = some none ∧ z = true) ∨ ∃ d, o = some (some d) ∧ k d = true := by
  cases o with
  | none => cases h
  | some o =>
    cases o with
    | none => exact .inl ⟨rfl, h⟩
    | some d => exact .inr ⟨d, rfl, h⟩
section
variable {C : Sc} {e tg : Expr} {es : List Expr} {st : Stmt} {sts sts2 : List Stmt} {a b : Sx} {x y : Ex} {t : Tx} {g : Gx} {pos : Pos} {it : Ix}
theorem s_for {ss : List Nat} (hp : PassesOwn (model C.X.prog C.X.w) C.X.A C.X.env C.X.xe) (hc : C.X.calm = true) (hi : PI C.X tg e (C.I it)) (hg : PG C.X tg (C.Tg ss g)) (hb : PSs C.X sts (C.S b)) (hs : ∀ x, foldedSetIterable e C.X.env x = pure x) :
    PS C.X (.For tg e sts [] pos) (C.S (sFor g it b)) := ps_imp (ps_for hp hc hi hg hb hs) fun D σ H ⟨ρ, dh, fr, nx, rt, ex, bk, ct, st, kn, kr, ke, kb, kc, h⟩ => by
  refine ⟨ρ, dh, fr, _, _, st, ke.xo, fun ρ1 dh1 H1 j J st1 le1 rj h1 => ?_, h⟩
  refine ⟨fun i m σ' H' => ∃ ρ' dh' fr', C.St ρ' dh' fr' σ' H' ∧ Le ρ1 H1 ρ' H' ∧ forLoop g j b nx rt ex m i fr' dh' = true, ⟨lcF, ρ1, dh1, fr, st1, Le.refl _ _, h1⟩, fun i m σ' H' ⟨ρ', dh', fr', st', le', h'⟩ => ?_⟩
  cases m with
  | zero => cases h'
  | succ m =>
    obtain ⟨q1, q2⟩ := rj C rfl rfl ρ' dh' fr' σ' H' i st' le'
    rcases turn_of (show turn (j.nxt i dh') (nx fr' dh') (fun x => g x fr' dh' fun fr h => b fr h (forLoop g j b nx rt ex m (Nat.succ i)) rt ex nx (forLoop g j b nx rt ex m (Nat.succ i))) = true from h') with ⟨e1, h2⟩ | ⟨d, e1, h2⟩
    · exact .inl ⟨q1 e1, kn ρ' dh' fr' σ' H' st' (le1.trans le') h2⟩
    · obtain ⟨go, yl⟩ := q2 d e1
      refine .inr ⟨go, _, fun σ2 H2 w => ⟨m, Nat.lt_succ_self m, w⟩, fun v H2 hy => ?_⟩
      obtain ⟨st2, le2, r2⟩ := yl v H2 hy
      refine ⟨ρ', dh', fr', d, _, st2, r2, fun ρ3 dh3 fr3 σ3 H3 st3 le3 _ h3 => ?_, h2⟩
      have le5 : Le ρ1 H1 ρ3 H3 := (le'.trans le2).trans le3
      have again : C.KNO ρ3 H3 (forLoop g j b nx rt ex m (Nat.succ i)) (fun σ' H' => ∃ ρ' dh' fr', C.St ρ' dh' fr' σ' H' ∧ Le ρ1 H1 ρ' H' ∧ forLoop g j b nx rt ex m (i + 1) fr' dh' = true) := fun ρ4 dh4 fr4 σ4 H4 st4 l4 h4 => ⟨ρ4, dh4, fr4, st4, le5.trans l4, h4⟩
      have le6 : Le ρ H ρ3 H3 := le1.trans le5
      exact ⟨ρ3, dh3, fr3, _, rt, ex, nx, _, st3, again, kr.later le6, ke.later le6, kn.later le6, again, h3⟩
/-! a range -/
theorem small_of {i : Int} (h : small62 i = true) : -(2 ^ 62) ≤ i ∧ i < 2 ^ 62 := by
  have f := Nat.le_of_ble_eq_true h
  have f2 : i.natAbs < 2 ^ 62 := by
    by_cases z : i.natAbs = 0
    · rw [z]; decide
    · exact (Nat.log2_lt z).mp (by omega)
  omega
theorem nxRng_none {lo : Int} {n i : Nat} (h : nxRng lo n i = some none) : n ≤ i := by
  unfold nxRng at h
  cases q : Nat.ble (Nat.succ i) n with
  | true => rw [q] at h; cases h
  | false => exact Nat.le_of_not_lt fun z => by rw [Nat.ble_eq.mpr z] at q; cases q
theorem nxRng_some {lo : Int} {n i : Nat} {d : DV} (h : nxRng lo n i = some (some d)) : i < n ∧ d = .int (lo + i) := by
  unfold nxRng at h
  cases q : Nat.ble (Nat.succ i) n with
  | true => rw [q] at h; cases h; exact ⟨Nat.ble_eq.mp q, rfl⟩
  | false => rw [q] at h; cases h
theorem rel_rng {G : Gv} {K : PySem.W.Frag} {ρ : List Loc} {H : Hp} {lo : Int} {n : Nat} : RelIt G K ρ H (.rng lo n) (Itr lo n) := fun C hG hK ρ' dh' fr' σ' H' i st le => by
  refine ⟨fun e => nxRng_none e, fun d e => ?_⟩
  obtain ⟨h1, rfl⟩ := nxRng_some e
  refine ⟨h1, fun v H2 ⟨e1, e2⟩ => ?_⟩
  subst e1 e2
  exact ⟨st, Le.refl _ _, rel_int.mpr rfl⟩
theorem si_rng1 {es' : Exs} {p : Pos} (hg : Gl C.X "range") (hm : C.X.mg "range" = none) (ha : PA C.X [e] (C.Es 1 es')) (hs : starEach [e] C.X.env = [(false, eval e C.X.env)]) : PI C.X tg (.Call (.Name "range" p) [e] [] pos) (C.I (iRng es')) :=
  pi_imp (pi_range1 hg hm ha hs) fun σ H R ⟨ρ, dh, fr, kx, k, st, xo, ki, h⟩ => by
    refine Es_then st xo h fun ρ1 dh1 H1 ds vs st1 le1 rr z1 h1 => ?_
    cases ds with
    | nil => cases h1
    | cons d r =>
      cases r with
      | cons _ _ => cases z1
      | nil =>
        obtain ⟨j, rfl, h2⟩ := onI_of (show onI false d (fun n => cnd (small62 n) (k (.rng 0 n.toNat) dh1) false) = true from h1)
        obtain ⟨f, h2⟩ := cnd_and h2
        obtain ⟨v, rfl, r1⟩ := rels1 rr
        rw [rel_int] at r1; subst r1
        obtain ⟨f1, f2⟩ := small_of f
        exact ⟨j, rfl, f1, f2, ki ρ1 dh1 H1 _ _ st1 le1 rel_rng h2⟩
theorem si_rng2 {e2 : Expr} {es' : Exs} {p : Pos} (hg : Gl C.X "range") (hm : C.X.mg "range" = none) (ha : PA C.X [e, e2] (C.Es 2 es')) (hs : starEach [e, e2] C.X.env = [(false, eval e C.X.env), (false, eval e2 C.X.env)]) (hs2 : starEach [e2] C.X.env = [(false, eval e2 C.X.env)]) :
    PI C.X tg (.Call (.Name "range" p) [e, e2] [] pos) (C.I (iRng es')) :=
  pi_imp (pi_range2 hg hm ha hs hs2) fun σ H R ⟨ρ, dh, fr, kx, k, st, xo, ki, h⟩ => by
    refine Es_then st xo h fun ρ1 dh1 H1 ds vs st1 le1 rr z1 h1 => ?_
    cases ds with
    | nil => cases h1
    | cons d r =>
      cases r with
      | nil => cases z1
      | cons d2 r =>
        cases r with
        | cons _ _ => cases z1
        | nil =>
          obtain ⟨i, rfl, h2⟩ := onI_of (show onI false d (fun a => onI false d2 fun n => cnd (small62 a) (cnd (small62 n) (k (.rng a (Int.sub n a).toNat) dh1) false) false) = true from h1)
          obtain ⟨j, rfl, h2⟩ := onI_of h2
          obtain ⟨f, h2⟩ := cnd_and h2
          obtain ⟨f', h2⟩ := cnd_and h2
          obtain ⟨v, w, rfl, r1, r2⟩ := rels2 rr
          rw [rel_int] at r1 r2; subst r1 r2
          obtain ⟨f1, f2⟩ := small_of f
          obtain ⟨f3, f4⟩ := small_of f'
          exact ⟨i, j, rfl, ⟨f1, f2, f3, f4⟩, ki ρ1 dh1 H1 _ _ st1 le1 rel_rng h2⟩
end
end Dz

set_option Elab.async false
set_option linter.all false
set_option maxRecDepth 100000
set_option maxHeartbeats 2000000
/-! Dz: into a def, a block; out of it. -/
namespace Dz
open PySem L2
/-- what a cell holds, in the heap itself -/
def CellIn (h : Heap) (H : Hp) (fs : List Addr) (a : Addr) (ov : Option V) : Prop := ∃ (o : Obj) (w : Option Value), h.get? a = some o ∧ o.data = .cell w ∧ a ∉ fs ∧ (H a = none ∨ H a = some (CellO a o)) ∧ ∀ v, ov = some v → ∃ u, w = some u ∧ RelV v u
def ObjIn (G : Gv) (h : Heap) (fs : List Addr) (ρ : List Loc) (H : Hp) (l : Loc) : DObj → Prop
  | .lst xs => ∃ a vs, l = .ob a ∧ H a = some (.lst vs) ∧ RelDs G ρ H xs vs
  | .dic kvs => ∃ a, l = .ob a ∧ DicAt G ρ H a kvs
  | .cell od => ∃ a ov, l = .ce a ∧ CellIn h H fs a ov ∧ ∀ d, od = some d → ∃ v, ov = some v ∧ RelD G ρ H d v
  | .pot => ∃ (a : Addr) (x y : Int), l = .ob a ∧ H a = some (.lst [.int x, .int y]) ∧ PotOk x y
  | .busy kvs => ∃ a, l = .ob a ∧ DicN G ρ H a kvs
/-- the data at a call, in the heap itself -/
structure EntR (G : Gv) (h : Heap) (fs : List Addr) (ρ : List Loc) (H : Hp) (dh : DH) : Prop where
  len : dh.n = ρ.length
  nd : ∀ (i j : Nat) (l : Loc), ρ[i]? = some l → ρ[j]? = some l → i = j
  obj : ∀ (i : Nat) (l : Loc), ρ[i]? = some l → ∃ o, dh.get i = some o ∧ ObjIn G h fs ρ H l o
  tabs : NdefX.TabsN G.T H
section
variable {C : Sc} {ρ ρ' : List Loc} {dh dh' : DH} {fr : Fr} {σ : L2.St} {H H' : Hp} {pins : List (Addr × Obj)} {s : Shared}
theorem stk_mem {X : Cx} (I : Inv X pins σ H s) {b : Addr} (hb : b ∈ frs X.stack) : b = X.env.locals ∨ b ∈ X.fs := by
  rcases List.mem_cons.mp (I.stkSub b hb) with e | e
  · exact .inl e
  · exact .inr e
/-- from a body: what a callee is told -/
theorem ent_of (I : Inv C.X pins σ H s) (st : C.St ρ dh fr σ H) : EntR C.G s.heap (frs C.X.stack) ρ H dh := by
  refine ⟨st.hr.len, st.hr.nd, fun i l e => ?_, st.hr.tabs⟩
  obtain ⟨o, h1, h2⟩ := st.hr.obj i l e
  refine ⟨o, h1, ?_⟩
  cases o with
  | lst xs => exact h2
  | dic kvs => exact h2
  | pot => exact h2
  | busy kvs => exact h2
  | cell od =>
    obtain ⟨a, ov, h0, ck, h⟩ := h2
    refine ⟨a, ov, h0, ?_, h⟩
    cases ck with
    | own j x hj hm hc hv hfn hs =>
      obtain ⟨w, ob, ho, hd⟩ := I.cell x a hc
      refine ⟨ob, w, ho, hd, fun z => ?_, .inl (I.freeC x a hc), fun v ev => ?_⟩
      · rcases stk_mem I z with e2 | e2
        · exact I.cne x a hc e2
        · exact C.hfs x a hc e2
      · obtain ⟨m, _, hl⟩ := I.loc
        obtain ⟨u, ru, lk⟩ := hl j x v hj (hs v ev) (.inr (.inl hv))
        rcases lk with ⟨k, _⟩ | ⟨_, c, hc2, ob2, ho2, hd2⟩
        · have k : C.X.env.scope.names.lookup x = some .local := k
          rw [hv] at k; cases k
        · rw [hc] at hc2; cases hc2
          rw [ho] at ho2; cases ho2
          rw [hd] at hd2; cases hd2
          exact ⟨u, rfl, ru⟩
    | st ob w hi ho hd hH hf he hv =>
      have hlt : a < C.X.s_0.heap.objs.size := Heap.lt_size ho
      refine ⟨ob, w, I.base.keep a ob ho hH hf he, hd, fun z => ?_, .inl (I.base.free a ob ho hH he), hv⟩
      rcases stk_mem I z with e2 | e2
      · exact absurd (Nat.lt_of_lt_of_le (e2 ▸ hlt) I.ok.above) (Nat.lt_irrefl _)
      · exact hf e2
    | tr ob w hH hd hv =>
      refine ⟨ob, w, ?_, hd, fun z => ?_, .inr hH, hv⟩
      · exact (I.hok a _ hH).1.1
      · have := I.stkFree a z
        rw [hH] at this; cases this
/-- what a call leaves: the data's heap later; old cells as they were, new ones tracked -/
def ObjOut (G : Gv) (ρ0 : List Loc) (dh0 : DH) (ρ : List Loc) (H : Hp) (i : Nat) (l : Loc) : DObj → Prop
  | .lst xs => ∃ a vs, l = .ob a ∧ H a = some (.lst vs) ∧ RelDs G ρ H xs vs
  | .dic kvs => ∃ a, l = .ob a ∧ DicAt G ρ H a kvs
  | .cell od => (i < ρ0.length ∧ dh0.get i = some (.cell od)) ∨ ∃ a ov, l = .ce a ∧ (∃ (o : Obj) (w : Option Value), H a = some (CellO a o) ∧ o.data = .cell w ∧ ∀ v, ov = some v → ∃ u, w = some u ∧ RelV v u) ∧ ∀ d, od = some d → ∃ v, ov = some v ∧ RelD G ρ H d v
  | .pot => ∃ (a : Addr) (x y : Int), l = .ob a ∧ H a = some (.lst [.int x, .int y]) ∧ PotOk x y
  | .busy kvs => ∃ a, l = .ob a ∧ DicN G ρ H a kvs
structure Out (G : Gv) (ρ0 : List Loc) (dh0 : DH) (H0 : Hp) (ρ : List Loc) (dh : DH) (H : Hp) : Prop where
  le : Le ρ0 H0 ρ H
  len : dh.n = ρ.length
  nd : ∀ (i j : Nat) (l : Loc), ρ[i]? = some l → ρ[j]? = some l → i = j
  obj : ∀ (i : Nat) (l : Loc), ρ[i]? = some l → ∃ o, dh.get i = some o ∧ ObjOut G ρ0 dh0 ρ H i l o
  tabs : NdefX.TabsN G.T H
  old : ∀ i, i < ρ0.length → ∀ o, dh0.get i = some (.cell o) → dh.get i = some (.cell o)
theorem Le.len {ρ ρ' : List Loc} {H H' : Hp} (le : Le ρ H ρ' H') : ρ.length ≤ ρ'.length := by
  obtain ⟨m, e, _⟩ := le.pre
  rw [e, List.length_append]; omega
/-- behind a call -/
theorem st_out (st : C.St ρ dh fr σ H) (o : Out C.G ρ dh H ρ' dh' H') : C.St ρ' dh' fr σ H' := by
  have p := st.hr.plain
  refine ⟨⟨o.len, o.nd, Nat.le_trans st.hr.low o.le.len, fun i l e => ?_, o.tabs⟩, st.sl.later p o.le fun c d hc q => ?_, st.fl, st.wl, fun i hi ob e => o.old i (Nat.lt_of_lt_of_le hi st.hr.low) ob (st.old i hi ob e)⟩
  · obtain ⟨ob, h1, h2⟩ := o.obj i l e
    refine ⟨ob, h1, ?_⟩
    cases ob with
    | lst xs => exact h2
    | dic kvs => exact h2
    | pot => exact h2
    | busy kvs => exact h2
    | cell od =>
      rcases h2 with ⟨hi, h2⟩ | ⟨a, ov, h0, ⟨ob, w, q1, q2, q3⟩, h⟩
      · obtain ⟨l', el⟩ : ∃ l', ρ[i]? = some l' := ⟨ρ[i], List.getElem?_eq_getElem hi⟩
        have := o.le.at el
        rw [e] at this; cases this
        obtain ⟨ob', g1, g2⟩ := st.hr.obj i l el
        rw [h2] at g1; cases g1
        exact g2.later p o.le fun a u hl hu => by
          obtain ⟨b, ov, h0, _⟩ := g2
          rw [h0] at hl; cases hl
      · exact ⟨a, ov, h0, .tr ob w q1 q2 q3, h⟩
  · obtain ⟨l', el⟩ : ∃ l', ρ[c]? = some l' := ⟨ρ[c], List.getElem?_eq_getElem hc⟩
    obtain ⟨ob, g1, g2⟩ := st.hr.obj c l' el
    obtain ⟨ob2, k1, k2⟩ := o.obj c l' (o.le.at el)
    rw [q] at k1; cases k1
    rcases k2 with ⟨_, k2⟩ | ⟨a, ov, h0, _⟩
    · exact k2
    · subst h0
      cases ob with
      | cell od =>
        have := o.old c hc od g1
        rw [q] at this; cases this
        exact g1
      | lst xs => obtain ⟨_, _, z, _⟩ := g2; cases z
      | dic xs => obtain ⟨_, z, _⟩ := g2; cases z
      | pot => obtain ⟨_, _, _, z, _⟩ := g2; cases z
      | busy xs => obtain ⟨_, z, _⟩ := g2; cases z
end
end Dz

set_option Elab.async false
set_option linter.all false
set_option maxRecDepth 100000
set_option maxHeartbeats 2000000
/-! Dz: defs and their calls. -/
namespace Dz
open PySem L2
def KEnd (G : Gv) (ρ : List Loc) (dh : DH) (H : Hp) (kk : KV) (Q : VK) : Prop := ∀ ρ' dh' H' d v, Out G ρ dh H ρ' dh' H' → RelD G ρ' H' d v → kk d dh' = true → Q v H'
def KExc (G : Gv) (ρ : List Loc) (dh : DH) (H : Hp) (kx : KX) (E : XK) : Prop := ∀ ρ' dh' H' c fs cls dx, Out G ρ dh H ρ' dh' H' → RelX G ρ' H' c fs cls dx → kx c fs dh' = true → E cls dx H'
/-- a def's promise: it does what the data's call says -/
structure FD (P : Program) (w : World) (K : PySem.W.Frag) (mg : Str → Option Value) (base : Heap) (k : Nat) (G : Gv) (call : Call) (j : Nat) (f : Addr) (fd : FuncData) (ps : List Str) : Prop where
  len : ∀ ds dh kx kk, call j ds dh kx kk = true → ds.length = ps.length
  run : ∀ (A : Around) (outer : List Env) (s : Shared) (H : Hp) (args : Args) (us : List Value) (vs : List V) (Q : VK) (E : XK) (ρ : List Loc) (dh : DH) (ds : List DV) (kx : KX) (kk : KV), Room k A → (G.gd = true → A.guards = some []) → Env0 P w K mg base A outer s H → BindsTo s fd args (ps.zip us) → Vals vs us →
    EntR G s.heap (frs outer) ρ H dh → RelDs G ρ H ds vs → KEnd G ρ dh H kk Q → KExc G ρ dh H kx E → call j ds dh kx kk = true → codeAny (model P w) A (.call (.ref f) args) (CR (L2.CX P w) outer P w H s Q E) s
section
variable {C : Sc} {ρ : List Loc} {dh : DH} {fr : Fr} {σ : L2.St} {H : Hp} {pins : List (Addr × Obj)} {s : Shared}
theorem kend_of {k : KV} {Q : VK} (st : C.St ρ dh fr σ H) (ko : C.KO ρ H fr σ k Q) : KEnd C.G ρ dh H k Q := fun ρ' dh' H' d v o r q => ko ρ' dh' H' d v (st_out st o) o.le r q
theorem kexc_of {kx : KX} (st : C.St ρ dh fr σ H) (xo : C.XO ρ H fr σ kx) : KExc C.G ρ dh H kx (WE C.W σ) := fun ρ' dh' H' c fs cls dx o r q => xo ρ' dh' H' c fs cls dx (st_out st o) o.le r q
/-- the callee runs -/
theorem run_fd {call : Call} {j : Nat} {f : Addr} {fd : FuncData} {ps : List Str} {args : Args} {us : List Value} {vs : List V} {ds : List DV} {kx : KX} {k : KV} {Q : VK} (F : FD C.X.prog C.X.w C.X.K C.X.mg C.X.base C.k C.G call j f fd ps)
    (hc : C.X.calm = true) (I : Inv C.X pins σ H s) (st : C.St ρ dh fr σ H) (xo : C.XO ρ H fr σ kx) (ko : C.KO ρ H fr σ k Q) (hb : BindsTo s fd args (ps.zip us)) (r : Vals vs us) (rd : RelDs C.G ρ H ds vs) (h : call j ds dh kx k = true) :
    codeAny (model C.X.prog C.X.w) C.X.A (.call (.ref f) args) (fun r s' => match r with | .ok fl => (∃ u, fl = .ret u ∧ EP C.X pins σ Q u s') | .error e => C.X.xe e s') s := by
  refine codeAny_mono (F.run C.X.A C.X.stack s H args us vs Q (WE C.W σ) ρ dh ds kx k (C.hr hc) C.hg I.env0 hb r (ent_of I st) rd (kend_of st ko) (kexc_of st xo) h) fun r s' hq => ?_
  cases r with
  | error e => exact passAt C.tk σ pins H s e s' I hq
  | ok fl =>
    cases fl with
    | ret u => exact ⟨u, rfl, I.after hq⟩
    | next => exact False.elim hq
    | brk => exact False.elim hq
    | cont => exact False.elim hq
end
theorem pick_at : ∀ {n : Nat} {ds : List DV}, ds.length = n → ∀ (dds : List DV), pick ((List.range n).map .at_ ++ dds.map .dv) ds = some (ds ++ dds) := by
  have hd : ∀ (dds vs : List DV), pick (dds.map .dv) vs = some dds := fun dds vs => by
    induction dds with
    | nil => rfl
    | cons d r ih =>
      show onO none (some d) (fun d => onO none (pick (r.map .dv) vs) fun q => some (d :: q)) = _
      rw [ih]; rfl
  have go : ∀ (m k : Nat) (ds dds : List DV), k + m = ds.length → pick ((List.range' k m).map .at_ ++ dds.map .dv) ds = some (ds.drop k ++ dds) := fun m => by
    induction m with
    | zero => intro k ds dds h; rw [List.range'_zero, List.map_nil, List.nil_append, hd, List.drop_eq_nil_of_le (by omega)]; rfl
    | succ m ih =>
      intro k ds dds h
      rw [List.range'_succ, List.map_cons, List.cons_append]
      show onO none (nth ds k) (fun d => onO none (pick ((List.range' (k + 1) m).map .at_ ++ dds.map .dv) ds) fun q => some (d :: q)) = _
      rw [ih (k + 1) ds dds (by omega), nth_eq, List.getElem?_eq_getElem (by omega)]
      show some (ds[k] :: (ds.drop (k + 1) ++ dds)) = _
      rw [← List.cons_append, List.getElem_cons_drop]
  intro n ds h dds
  rw [List.range_eq_range', go n 0 ds dds (by omega), List.drop_zero]
/-- defaults: data that stand for themselves -/
def Dfl (G : Gv) (dds : List DV) (dvs : List V) : Prop := ∀ ρ H, RelDs G ρ H dds dvs
section
variable {C : Sc} {e : Expr} {es : List Expr} {t : Exs} {n j : Nat} {call : Call} {f : Addr} {fd : FuncData} {ps : List Str} {x : Str} {p pos : Pos} {dds : List DV} {dvs : List V} {dsv : List Value} {pm : List PArg}
/-- f(e, ..) -/
theorem se_call (hc : C.X.calm = true) (F : FD C.X.prog C.X.w C.X.K C.X.mg C.X.base C.k C.G call j f fd ps) (hg : Gl C.X x) (hm : C.X.mg x = some (.ref f)) (hk : PySem.W.keepIn C.X.K (.ref f) = true) (hb : Binds C.X.K fd ps dsv) (hd : Vals dvs dsv) (hdf : Dfl C.G dds dvs) (hp : pm = (List.range n).map .at_ ++ dds.map .dv)
    (ha : PA C.X (e :: es) (C.Es n t)) (hdb : (x == ("__debug__" : Str)) = false) (he : starEach (e :: es) C.X.env = (false, eval e C.X.env) :: starEach es C.X.env) (hpl : (backTo pos (starEach es C.X.env)).any (·.1) = false) :
    PE C.X (.Call (.Name x p) (e :: es) [] pos) (C.E (cCall call j pm t)) := by
  refine ⟨fun pins s σ H Q I ⟨ρ, dh, fr, kx, k, st, xo, ko, h⟩ => ?_⟩
  refine wpAny_Call_Name_kw (ld_glob I hg hm ?_ hdb)
  have q0 : C.Es n t σ H fun vs H1 => ∃ ρ1 dh1 ds, C.St ρ1 dh1 fr σ H1 ∧ C.XO ρ1 H1 fr σ kx ∧ C.KO ρ1 H1 fr σ k Q ∧ RelDs C.G ρ1 H1 (ds ++ dds) (vs ++ dvs) ∧ call j (ds ++ dds) dh1 kx k = true :=
    Es_then st xo h fun ρ1 dh1 H1 ds vs st1 le1 r1 z1 h1 => by
      subst hp
      rw [pick_at z1] at h1
      exact ⟨ρ1, dh1, ds, st1, xo.later le1, ko.later le1, rels_app r1 (hdf ρ1 H1), h1⟩
  refine PySem.W.callWith_K (h₀ := C.X.base) I.ok.mod.kin hk (thn (ha.run pos pins s σ H _ I q0) fun us s1 ⟨vs, H1, I1, r, ρ1, dh1, ds, st1, xo1, ko1, rd, h1⟩ => ⟨I1.kIn, ?_⟩) he hpl
  have r2 : Vals (vs ++ dvs) (us ++ dsv) := r.append hd
  have hl : (us ++ dsv).length = ps.length := by rw [← r2.length, ← rels_length rd]; exact F.len _ _ _ _ h1
  refine wpAny_call (codeAny_mono (run_fd F hc I1 st1 xo1 ko1 (hb s1 us I1.kIn hl) r2 rd h1) fun r s' hq => ?_)
  cases r with
  | error e => exact hq
  | ok fl =>
    obtain ⟨u, rfl, hq⟩ := hq
    exact hq
end
/-! ### the start of a def -/
theorem heap_in {G : Gv} {X : Cx} {h : Heap} {ρ : List Loc} {H : Hp} {dh : DH} {σ : L2.St} {fs : List Addr} (e : EntR G h fs ρ H dh) (hs : X.s_0.heap = h) (hH : X.H_0 = H) (ho : frs X.outer = fs) (hx : ∀ a o w, h.get? a = some o → o.data = .cell w → a ∉ X.ex) {cs : List Nat} : HeapRel G X ⟨ρ.length, dh⟩ cs σ ρ H dh := by
  refine ⟨e.len, e.nd, Nat.le_refl _, fun i l el => ?_, e.tabs⟩
  obtain ⟨o, h1, h2⟩ := e.obj i l el
  refine ⟨o, h1, ?_⟩
  cases o with
  | lst xs => exact h2
  | dic kvs => exact h2
  | pot => exact h2
  | busy kvs => exact h2
  | cell od =>
    obtain ⟨a, ov, h0, ⟨ob, w, q1, q2, q3, q4, q5⟩, h⟩ := h2
    refine ⟨a, ov, h0, ?_, h⟩
    rcases q4 with q4 | q4
    · refine .st ob w (List.getElem?_eq_some_iff.mp el).1 (by rw [hs]; exact q1) q2 (by rw [hH]; exact q4) (by show a ∉ frs X.outer; rw [ho]; exact q3) (hx a ob w q1 q2) q5
    · exact .tr ob w q4 q2 q5
/-- what leaves a def (a block) that has made no cells of its own -/
theorem out_of {C : Sc} {h : Heap} {fs : List Addr} {ρ ρ' : List Loc} {dh dh' : DH} {fr : Fr} {σ : L2.St} {H H' Hx : Hp} (e : EntR C.G h fs ρ Hx dh) (hn : C.n0 = ⟨ρ.length, dh⟩) (hcl : ∀ j ∈ C.cs, ∀ x, C.X.N[j]? = some x → C.X.fn x = false) (st : C.St ρ' dh' fr σ H') (le : Le ρ H ρ' H') : Out C.G ρ dh H ρ' dh' H' := by
  refine ⟨le, st.hr.len, st.hr.nd, fun i l el => ?_, st.hr.tabs, fun i hi o eo => st.old i (by rw [hn]; exact hi) o (by rw [hn]; exact eo)⟩
  obtain ⟨o, h1, h2⟩ := st.hr.obj i l el
  refine ⟨o, h1, ?_⟩
  cases o with
  | lst xs => exact h2
  | dic kvs => exact h2
  | pot => exact h2
  | busy kvs => exact h2
  | cell od =>
    by_cases hi : i < ρ.length
    · refine .inl ⟨hi, ?_⟩
      obtain ⟨l', el'⟩ : ∃ l', ρ[i]? = some l' := ⟨ρ[i], List.getElem?_eq_getElem hi⟩
      have z := le.at el'
      rw [el] at z; cases z
      obtain ⟨o', g1, g2⟩ := e.obj i l el'
      obtain ⟨a, ov, h0, _⟩ := h2
      subst h0
      cases o' with
      | cell od' =>
        have z := st.old i (by rw [hn]; exact hi) od' (by rw [hn]; exact g1)
        rw [h1] at z; cases z
        exact g1
      | lst xs => obtain ⟨_, _, z, _⟩ := g2; cases z
      | dic xs => obtain ⟨_, z, _⟩ := g2; cases z
      | pot => obtain ⟨_, _, _, z, _⟩ := g2; cases z
      | busy xs => obtain ⟨_, z, _⟩ := g2; cases z
    · obtain ⟨a, ov, h0, ck, h⟩ := h2
      refine .inr ⟨a, ov, h0, ?_, h⟩
      cases ck with
      | own j x hj hjm hc hv hfn hs =>
        have := hcl j hjm x hj
        rw [hfn] at this; cases this
      | st ob w hi' ho hd hH hf he hv =>
        rw [hn] at hi'
        exact absurd hi' hi
      | tr ob w hH hd hv => exact ⟨ob, w, hH, hd, hv⟩
end Dz

set_option Elab.async false
set_option linter.all false
set_option maxRecDepth 100000
set_option maxHeartbeats 2000000
/-! Dz: a def by its body. -/
namespace Dz
open PySem L2
theorem nones_eq (n : Nat) : nones n = List.replicate n none := by
  induction n with
  | zero => rfl
  | succ n ih =>
    show none :: nones n = _
    rw [ih, List.replicate_succ]
theorem plainFr_eq (more : Nat) : ∀ as : List DV, plainFr more as = as.map some ++ List.replicate more none
  | [] => nones_eq more
  | a :: r => by
    show some a :: plainFr more r = _
    rw [plainFr_eq more r]; rfl
theorem start_rel {G : Gv} {X : Cx} {n0 : Ent} {ρ : List Loc} {H : Hp} {dh : DH} {as : List DV} {vs : List V} {more : Nat} {rest : List (Option V)} (r : RelDs G ρ H as vs) : FrRel G X n0 [] (vs.map some ++ rest) ρ H dh (plainFr more as) := fun i d e => by
  rw [plainFr_eq] at e
  refine .inl ⟨by simp, ?_⟩
  by_cases h : i < as.length
  · rw [List.getElem?_append_left (by simpa using h), List.getElem?_map] at e
    cases q : as[i]? with
    | none => rw [q] at e; cases e
    | some d' =>
      rw [q] at e; cases e
      obtain ⟨v, h1, h2⟩ := rels_get r q
      refine ⟨v, ?_, h2⟩
      rw [List.getElem?_append_left (by rw [List.length_map, ← rels_length r]; exact h), List.getElem?_map, h1]
      rfl
  · rw [List.getElem?_append_right (by simpa using h), List.getElem?_replicate] at e
    split at e <;> cases e
/-- the context of a def's body -/
abbrev fcx (P : Program) (w : World) (K : PySem.W.Frag) (mg : Str → Option Value) (base : Heap) (N : List Str) (qual : Str) (scope : Scope) (f : Addr) (cd : Value) (A : Around) (outer : List Env) (s : Shared) (H : Hp) (E : XK) : Cx := cxOf (L2.CX P w) P w K mg base N qual scope f cd A outer s H E
/-- THE RULE: a def without cells of its own, by its body -/
theorem fd_gen {inner call' : Call} {P : Program} {w : World} {K : PySem.W.Frag} {mg : Str → Option Value} {base : Heap} {k j more : Nat} {G : Gv} {f : Addr} {name qual : Str} {params : Arguments} {body : List Stmt} {scope : Scope} {dV kV doc pm cdv ct oc : Value} {an od : Option Addr}
    {osl : Array (Option Value)} {N ps : List Str} {b : Call → Sx} (lk : K.lookup f = some ⟨oc, od, .func (PySem.W.fnOf name qual params body scope dV kV doc pm an cdv ct), osl⟩) (hcd : PySem.W.codeIn K cdv qual = true) (S : FnScope N ps scope)
    (hK : G.K = K ∧ G.w = w) (hl : N.length = ps.length + more) (hj : ∀ ds dh kx kk, call' j ds dh kx kk = true → runFn inner (.body ps.length [] more b) ds dh kx kk = true)
    (hbody : ∀ (C : Sc) (A : Around) (outer : List Env) (s : Shared) (H : Hp) (E : XK), C.X = fcx P w K mg base N qual scope f cdv A outer s H E → C.cs = [] → C.k = k → C.G = G → C.W = (fun cls d _ H' => E cls d H') → PSs C.X body (C.S (b inner))) :
    FD P w K mg base (k + 1) G call' j f (PySem.W.fnOf name qual params body scope dV kV doc pm an cdv ct) ps := by
  have hcall : ∀ ds dh kx kk, call' j ds dh kx kk = true → cnd (Nat.beq (lenN ds) ps.length) (b inner (plainFr more ds) dh (fun _ h => kk .non h) kk (fun c fs _ h => kx c fs h) noN noN) false = true := hj
  refine ⟨fun ds dh kx kk h => ?_, fun A outer s H args us vs Q E ρ dh ds kx kk hr hga e0 hb r ent rd ke kxx h => ?_⟩
  · obtain ⟨h, _⟩ := cnd_and (hcall _ _ _ _ h)
    rw [← lenN_eq]; exact Nat.eq_of_beq_eq_true h
  obtain ⟨hn, h⟩ := cnd_and (hcall _ _ _ _ h)
  have hn := Nat.eq_of_beq_eq_true hn
  rw [lenN_eq] at hn
  have hvl : vs.length = ps.length := by rw [← rels_length rd]; exact hn
  have KX : K.In s.heap := e0.mod.kin.keeps fun b o e => (e0.bs b o e).1
  have lim : s.heap.NoLimit := e0.mod.nolimit.keeps fun b o e => (e0.bs b o e).1
  have hkind : ∀ y ∈ ps.zip us, scope.names.lookup y.1 = some .local ∨ (scope.names.lookup y.1 = some .cell ∧ ((cellsFrom (s.heap.objs.size + 1) scope.names []).lookup y.1).isSome = true) := fun ⟨n, v⟩ hy => by
    rcases S.par n (List.of_mem_zip hy).1 with q | q
    · exact .inl q
    · exact .inr ⟨q, PySem.W.cellsFrom_some _ _ _ (.inl q)⟩
  refine codeAny_call_function hr.depth (KX _ _ lk) rfl S.co S.gen rfl (PySem.W.codeRec_of KX hcd) (hb _ _ _ _ ?_)
  refine wpAny_newFunctionEnv_cells S.kind hkind fun env he s1 x => ?_
  subst he
  refine ⟨lim.keeps x.toInCall.keep, codeAny_func ?_⟩
  have I : Inv (fcx P w K mg base N qual scope f cdv A outer s H E) [] (start N vs) H s1 := inv_start S hr.hd e0 hvl r x
  have hfs : ∀ (x : Str) (a : Addr), (fcx P w K mg base N qual scope f cdv A outer s H E).env.cells.lookup x = some a → a ∉ (fcx P w K mg base N qual scope f cdv A outer s H E).fs := fun y a e z => by
    obtain ⟨_, o, ho, _⟩ := e0.funs.mem z
    exact absurd (Nat.lt_trans (Heap.lt_size ho) (x.above y a (PySem.mem_of_lookup e))) (Nat.lt_irrefl _)
  let C : Sc := ⟨G, fcx P w K mg base N qual scope f cdv A outer s H E, ⟨ρ.length, dh⟩, [], fun cls d _ H' => E cls d H', k, hK.1, (by have := hr.un; show A.units + 3 + 200 < cLine; omega), fun _ => hr.deeper _, hga, takes_of rfl rfl rfl rfl, S.nd, hfs, I.ok.inj, hK.2⟩
  have ht := hbody C A outer s H E rfl rfl rfl rfl rfl
  have st : C.St ρ dh (plainFr more ds) (start N vs) H := by
    refine ⟨heap_in ent rfl rfl rfl (fun _ _ _ _ _ z => by cases z), start_rel rd, ?_, ?_, fun i hi o e => e⟩
    · rw [plainFr_eq]
      unfold L2.start
      rw [List.length_append, List.length_append, List.length_map, List.length_map, List.length_replicate, List.length_replicate]
      omega
    · show (L2.start N vs).length = N.length
      unfold L2.start
      rw [List.length_append, List.length_map, List.length_replicate]
      omega
  have out : ∀ {ρ' : List Loc} {dh' : DH} {fr' : Fr} {σ' : L2.St} {H' : Hp}, C.St ρ' dh' fr' σ' H' → Le ρ H ρ' H' → Out G ρ dh H ρ' dh' H' := fun {ρ' dh' fr' σ' H'} st' le => out_of ent rfl (fun j z => by cases z) st' le
  have hq : C.S (b inner) { nx := fun _ H' => Q .non H', rt := Q } (start N vs) H :=
    ⟨ρ, dh, plainFr more ds, _, kk, _, noN, noN, st, fun ρ' dh' fr' σ' H' st' le q => ke ρ' dh' H' .non .non (out st' le) (rel_non.mpr rfl) q, fun ρ' dh' fr' σ' H' d v st' le rv q => ke ρ' dh' H' d v (out st' le) rv q,
      fun ρ' dh' fr' σ' H' c fs cls dx st' le rx q => kxx ρ' dh' H' c fs cls dx (out st' le) rx q, fun _ _ _ _ _ _ _ q => (by cases q), fun _ _ _ _ _ _ _ q => (by cases q), h⟩
  refine wpAny_mono (ht.run [] s1 (start N vs) H _ I hq) (fun fl s' hs => ?_) fun e s' hs => hs
  have fin : ∀ {σ' : L2.St} {H' : Hp} {v : V} {u : Value}, Inv (fcx P w K mg base N qual scope f cdv A outer s H E) [] σ' H' s' → RelV v u → Q v H' → CE outer P w H s Q u s' :=
    fun {σ' H' v u} J rv q => ⟨v, H', J.os, J.bare, J.base, J.hok, rv, q⟩
  cases fl with
  | ret u =>
    obtain ⟨v, σ', H', J, rv, q⟩ := hs
    exact fin J rv q
  | next =>
    obtain ⟨σ', H', J, q⟩ := hs
    exact fin (v := V.non) (u := Value.none) J rfl q
  | brk =>
    obtain ⟨_, _, _, q⟩ := hs
    exact False.elim q
  | cont =>
    obtain ⟨_, _, _, q⟩ := hs
    exact False.elim q
theorem fd_of {P : Program} {w : World} {K : PySem.W.Frag} {mg : Str → Option Value} {base : Heap} {k j more : Nat} {G : Gv} {fns : Nat → FnD} {f : Addr} {name qual : Str} {params : Arguments} {body : List Stmt} {scope : Scope} {dV kV doc pm cdv ct oc : Value} {an od : Option Addr}
    {osl : Array (Option Value)} {N ps : List Str} {b : Call → Sx} (lk : K.lookup f = some ⟨oc, od, .func (PySem.W.fnOf name qual params body scope dV kV doc pm an cdv ct), osl⟩) (hcd : PySem.W.codeIn K cdv qual = true) (S : FnScope N ps scope)
    (hK : G.K = K ∧ G.w = w) (hl : N.length = ps.length + more) (hj : fns j = .body ps.length [] more b)
    (hbody : ∀ (C : Sc) (A : Around) (outer : List Env) (s : Shared) (H : Hp) (E : XK), C.X = fcx P w K mg base N qual scope f cdv A outer s H E → C.cs = [] → C.k = k → C.G = G → C.W = (fun cls d _ H' => E cls d H') → PSs C.X body (C.S (b (callK fns k)))) :
    FD P w K mg base (k + 1) G (callK fns (k + 1)) j f (PySem.W.fnOf name qual params body scope dV kV doc pm an cdv ct) ps :=
  fd_gen lk hcd S hK hl (fun ds dh kx kk h => by
    have e : callK fns (k + 1) j ds dh kx kk = runFn (callK fns k) (fns j) ds dh kx kk := rfl
    rw [e, hj] at h
    exact h) hbody
end Dz

set_option Elab.async false
set_option linter.all false
set_option maxRecDepth 100000
set_option maxHeartbeats 2000000
/-! Dz: lists, tuples, zips walked. -/
namespace Dz
open PySem L2
theorem nth_none {xs : List DV} {vs : List V} {i : Nat} {G : Gv} {ρ : List Loc} {H : Hp} (r : RelDs G ρ H xs vs) (h : nth xs i = none) : vs.length ≤ i := by
  rw [nth_eq, List.getElem?_eq_none_iff] at h
  rw [← rels_length r]; exact h
theorem nth_some {xs : List DV} {vs : List V} {i : Nat} {d : DV} {G : Gv} {ρ : List Loc} {H : Hp} (r : RelDs G ρ H xs vs) (h : nth xs i = some d) : ∃ v, vs[i]? = some v ∧ RelD G ρ H d v := by
  rw [nth_eq] at h; exact rels_get r h
theorem nxSq_of {d : DV} {i : Nat} {h : DH} {o : Option DV} (e : nxSq d i h = some o) : ∃ xs, seqOf d h = some xs ∧ nth xs i = o := by
  unfold nxSq at e
  cases q : seqOf d h with
  | none => rw [q] at e; cases e
  | some xs => rw [q] at e; exact ⟨xs, rfl, Option.some.inj e⟩
section
variable {C : Sc} {ρ : List Loc} {dh : DH} {fr : Fr} {σ : L2.St} {H : Hp} {pins : List (Addr × Obj)} {s : Shared}
theorem seqL {i : Nat} {xs : List DV} (e : seqOf (.ref i) dh = some xs) : dh.get i = some (.lst xs) := by
  have e : obL none (dh.get i) some = some xs := e
  cases q : dh.get i with
  | none => rw [q] at e; cases e
  | some o => cases o <;> rw [q] at e <;> cases e; rfl
theorem rel_sqL {i : Nat} {a : Addr} (st : C.St ρ dh fr σ H) (r : RelD C.G ρ H (.ref i) (.ref a)) : RelIt C.G C.X.K ρ H (.sq (.ref i)) (Itl C.X.K a) := fun C2 hG hK ρ' dh' fr' σ' H' n st' le => by
  have r' := RelD.later st.hr.plain le r
  rw [← hG] at r'
  refine ⟨fun e => ?_, fun d e => ?_⟩
  · obtain ⟨xs, e1, e2⟩ := nxSq_of e
    obtain ⟨b, vs, h0, _, h3, h4⟩ := st_lst st' r' (seqL e1)
    cases h0
    exact ⟨vs, .inl (.inl h3), nth_none h4 e2⟩
  · obtain ⟨xs, e1, e2⟩ := nxSq_of e
    obtain ⟨b, vs, h0, _, h3, h4⟩ := st_lst st' r' (seqL e1)
    cases h0
    obtain ⟨v, h5, h6⟩ := nth_some h4 e2
    refine ⟨⟨vs, v, .inl (.inl h3), h5⟩, fun x H2 ⟨q1, q2⟩ => ?_⟩
    subst q1
    have := q2 vs (.inl (.inl h3))
    rw [h5] at this; cases this
    exact ⟨st', Le.refl _ _, h6⟩
theorem rel_sqT {ys : List DV} {a : Addr} (st : C.St ρ dh fr σ H) (r : RelD C.G ρ H (.tup ys) (.ref a)) : RelIt C.G C.X.K ρ H (.sq (.tup ys)) (Itt C.X.K a) := fun C2 hG hK ρ' dh' fr' σ' H' n st' le => by
  have r' := RelD.later st.hr.plain le r
  obtain ⟨b, vs, h0, h3, h4⟩ := rel_tup.mp r'
  cases h0
  have h3 := C.sq h3
  rw [← hG] at h4
  refine ⟨fun e => ?_, fun d e => ?_⟩
  · obtain ⟨xs, e1, e2⟩ := nxSq_of e
    cases e1
    exact ⟨vs, h3, nth_none h4 e2⟩
  · obtain ⟨xs, e1, e2⟩ := nxSq_of e
    cases e1
    obtain ⟨v, h5, h6⟩ := nth_some h4 e2
    refine ⟨⟨vs, v, h3, h5⟩, fun x H2 ⟨q1, q2⟩ => ?_⟩
    subst q1
    have := q2 vs h3
    rw [h5] at this; cases this
    exact ⟨st', Le.refl _ _, h6⟩
end
/-- what walks a list or a tuple -/
def iSq (K : PySem.W.Frag) (tl : TE) : TI := fun σ H R => tl σ H fun x H1 => ∃ a, x = .ref a ∧ (((∃ xs, SqL K H1 a xs) ∧ R (Itl K a) H1) ∨ ((∃ xs, SqT K H1 a xs) ∧ R (Itt K a) H1))
theorem pi_sq {X : Cx} {tg l : Expr} {tl : TE} (hl : PE X l tl) : PI X tg l (iSq X.K tl) := by
  refine ⟨fun pins s σ H R I h => ?_⟩
  refine thn (hl.run pins s σ H _ I h) fun v s1 ⟨x, H1, I1, r1, a, e, q⟩ => ?_
  subst e
  cases r1
  have fin : ∀ b ∈ [s1.heap.objs.size], FpOk X pins H1 b := fun b hb => by
    have e : b = s1.heap.objs.size := by simpa using hb
    subst e
    exact I1.fpOk (Nat.le_refl _) (I1.hok.fresh (Nat.le_refl _))
  rcases q with ⟨⟨xs, hq⟩, q⟩ | ⟨⟨xs, hq⟩, q⟩
  · obtain ⟨its, rv, p, hz⟩ := I1.list hq
    exact wpAny_pyIter_list p.isList ⟨s1.heap.objs.size, [s1.heap.objs.size], _, _, H1, rfl, I1.kept (t' := s1.toks) fun b o e => Heap.get?_push_of_some _ e, turn_list a _, ⟨_, Heap.get?_push_size _ rfl, rfl, rfl⟩, fin, q⟩
  · obtain ⟨its, rv, p, hz⟩ := I1.tuple hq
    exact wpAny_pyIter_tuple (show s1.heap.IsTuple a its.toArray from p) ⟨s1.heap.objs.size, [s1.heap.objs.size], _, _, H1, rfl, I1.kept (t' := s1.toks) fun b o e => Heap.get?_push_of_some _ e, turn_tuple a _, ⟨_, Heap.get?_push_size _ rfl, rfl, rfl⟩, fin, q⟩
section
variable {C : Sc} {e e2 tg : Expr} {a : Ex} {es' : Exs} {p pos : Pos}
theorem si_seq (ha : PE C.X e (C.E a)) : PI C.X tg e (C.I (iSeq a)) := pi_imp (pi_sq ha) fun σ H R ⟨ρ, dh, fr, kx, k, st, xo, ki, h⟩ => by
  refine E_then st xo h fun ρ1 dh1 H1 d v st1 le1 r1 h1 => ?_
  obtain ⟨xs, e1, h1⟩ := onO_some h1
  cases d with
  | tup ys =>
    obtain ⟨b, vs, rfl, s, _⟩ := rel_tup.mp r1
    exact ⟨b, rfl, .inr ⟨⟨vs, C.sq s⟩, ki ρ1 dh1 H1 _ _ st1 le1 (rel_sqT st1 r1) h1⟩⟩
  | ref i =>
    obtain ⟨b, vs, rfl, _, s, _⟩ := st_lst st1 r1 (seqL e1)
    exact ⟨b, rfl, .inl ⟨⟨vs, .inl (.inl s)⟩, ki ρ1 dh1 H1 _ _ st1 le1 (rel_sqL st1 r1) h1⟩⟩
  | _ => cases e1
/-! zip -/
theorem nxZp_none {d d2 : DV} {i : Nat} {h : DH} (e : nxZp d d2 i h = some none) : ∃ xs ys, seqOf d h = some xs ∧ seqOf d2 h = some ys ∧ (nth xs i = none ∨ nth ys i = none) := by
  unfold nxZp at e
  cases q : seqOf d h with
  | none => rw [q] at e; cases e
  | some xs =>
    rw [q] at e
    cases q2 : seqOf d2 h with
    | none => rw [q2] at e; cases e
    | some ys =>
      rw [q2] at e
      refine ⟨xs, ys, rfl, rfl, ?_⟩
      cases q3 : nth xs i with
      | none => exact .inl rfl
      | some x =>
        cases q4 : nth ys i with
        | none => exact .inr rfl
        | some y =>
          have e : some (onO none (nth xs i) fun x => onO none (nth ys i) fun y => some (DV.tup [x, y])) = some none := e
          rw [q3, q4] at e; cases e
theorem nxZp_some {d d2 : DV} {i : Nat} {h : DH} {r : DV} (e : nxZp d d2 i h = some (some r)) : ∃ xs ys x y, seqOf d h = some xs ∧ seqOf d2 h = some ys ∧ nth xs i = some x ∧ nth ys i = some y ∧ r = .tup [x, y] := by
  unfold nxZp at e
  cases q : seqOf d h with
  | none => rw [q] at e; cases e
  | some xs =>
    rw [q] at e
    cases q2 : seqOf d2 h with
    | none => rw [q2] at e; cases e
    | some ys =>
      rw [q2] at e
      have e : some (onO none (nth xs i) fun x => onO none (nth ys i) fun y => some (DV.tup [x, y])) = some (some r) := e
      cases q3 : nth xs i with
      | none => rw [q3] at e; cases e
      | some x =>
        cases q4 : nth ys i with
        | none => rw [q3, q4] at e; cases e
        | some y =>
          rw [q3, q4] at e; cases e
          exact ⟨xs, ys, x, y, rfl, rfl, q3, q4, rfl⟩
section
variable {ρ : List Loc} {dh : DH} {fr : Fr} {σ : L2.St} {H : Hp}
theorem zip_step {H2 : Hp} {T : Addr} {x y : DV} {v w : V} (st : C.St ρ dh fr σ H) (hT : H T = none) (rx : RelD C.G ρ H x v) (ry : RelD C.G ρ H y w) : C.St ρ dh fr σ (L2.upd H T (.tup [v, w])) ∧ Le ρ H ρ (L2.upd H T (.tup [v, w])) ∧ RelD C.G ρ (L2.upd H T (.tup [v, w])) (.tup [x, y]) (.ref T) := by
  have le : Le ρ H ρ (L2.upd H T (.tup [v, w])) := le_upd hT
  refine ⟨st_upd st hT, le, rel_tup.mpr ⟨T, [v, w], rfl, upd_same, ?_⟩⟩
  exact rels_cons.mpr ⟨v, [w], rfl, RelD.later st.hr.plain le rx, rels_cons.mpr ⟨w, [], rfl, RelD.later st.hr.plain le ry, rels_nil.mpr rfl⟩⟩
theorem rel_zpL {i j : Nat} {b c : Addr} (st : C.St ρ dh fr σ H) (r : RelD C.G ρ H (.ref i) (.ref b)) (r2 : RelD C.G ρ H (.ref j) (.ref c)) : RelIt C.G C.X.K ρ H (.zp (.ref i) (.ref j)) (Itz C.X.K b c) := fun C2 hG hK ρ' dh' fr' σ' H' n st' le => by
  have r' := RelD.later st.hr.plain le r
  have r2' := RelD.later st.hr.plain le r2
  rw [← hG] at r' r2'
  refine ⟨fun e => ?_, fun d e => ?_⟩
  · obtain ⟨xs, ys, e1, e2, e3⟩ := nxZp_none e
    obtain ⟨_, vs, h0, _, h3, h4⟩ := st_lst st' r' (seqL e1)
    cases h0
    obtain ⟨_, us, h0, _, g3, g4⟩ := st_lst st' r2' (seqL e2)
    cases h0
    exact ⟨vs, us, .inl (.inl h3), .inl (.inl g3), e3.imp (nth_none h4) (nth_none g4)⟩
  · obtain ⟨xs, ys, x, y, e1, e2, e3, e4, rfl⟩ := nxZp_some e
    obtain ⟨_, vs, h0, _, h3, h4⟩ := st_lst st' r' (seqL e1)
    cases h0
    obtain ⟨_, us, h0, _, g3, g4⟩ := st_lst st' r2' (seqL e2)
    cases h0
    obtain ⟨v, h5, h6⟩ := nth_some h4 e3
    obtain ⟨w, g5, g6⟩ := nth_some g4 e4
    refine ⟨⟨vs, us, v, w, .inl (.inl h3), .inl (.inl g3), h5, g5⟩, fun z H2 ⟨T, v', w', q1, q2, q3, q4, q5⟩ => ?_⟩
    have a1 := q4 vs (.inl (.inl h3))
    have a2 := q5 us (.inl (.inl g3))
    rw [h5] at a1; cases a1
    rw [g5] at a2; cases a2
    subst q1 q3
    exact zip_step (H2 := H') st' q2 h6 g6
theorem rel_zpT {xs0 ys0 : List DV} {b c : Addr} (st : C.St ρ dh fr σ H) (r : RelD C.G ρ H (.tup xs0) (.ref b)) (r2 : RelD C.G ρ H (.tup ys0) (.ref c)) : RelIt C.G C.X.K ρ H (.zp (.tup xs0) (.tup ys0)) (RZ.ItzT C.X.K b c) := fun C2 hG hK ρ' dh' fr' σ' H' n st' le => by
  obtain ⟨_, vs, h0, h3, h4⟩ := rel_tup.mp (RelD.later st.hr.plain le r)
  cases h0
  obtain ⟨_, us, h0, g3, g4⟩ := rel_tup.mp (RelD.later st.hr.plain le r2)
  cases h0
  have h3 := C.sq h3
  have g3 := C.sq g3
  rw [← hG] at h4 g4
  refine ⟨fun e => ?_, fun d e => ?_⟩
  · obtain ⟨xs, ys, e1, e2, e3⟩ := nxZp_none e
    cases e1; cases e2
    exact ⟨vs, us, h3, g3, e3.imp (nth_none h4) (nth_none g4)⟩
  · obtain ⟨xs, ys, x, y, e1, e2, e3, e4, rfl⟩ := nxZp_some e
    cases e1; cases e2
    obtain ⟨v, h5, h6⟩ := nth_some h4 e3
    obtain ⟨w, g5, g6⟩ := nth_some g4 e4
    refine ⟨⟨vs, us, v, w, h3, g3, h5, g5⟩, fun z H2 ⟨T, v', w', q1, q2, q3, q4, q5⟩ => ?_⟩
    have a1 := q4 vs h3
    have a2 := q5 us g3
    rw [h5] at a1; cases a1
    rw [g5] at a2; cases a2
    subst q1 q3
    exact zip_step (H2 := H') st' q2 h6 g6
end
theorem twoSq_of {x y : DV} {h : DH} (e : twoSq x y h = true) : (∃ i j xs ys, x = .ref i ∧ y = .ref j ∧ h.get i = some (.lst xs) ∧ h.get j = some (.lst ys)) ∨ ∃ xs ys, x = .tup xs ∧ y = .tup ys := by
  cases x with
  | ref i =>
    obtain ⟨xs, e1, e⟩ := obL_true (show obL false (h.get i) (fun _ => onR false y fun j => obL false (h.get j) fun _ => true) = true from e)
    obtain ⟨j, rfl, e⟩ := onR_of e
    obtain ⟨ys, e2, _⟩ := obL_true e
    exact .inl ⟨i, j, xs, ys, rfl, rfl, e1, e2⟩
  | tup xs =>
    obtain ⟨ys, rfl, _⟩ := onT_of (show onT false y (fun _ => true) = true from e)
    exact .inr ⟨xs, ys, rfl, rfl⟩
  | _ => cases e
theorem si_zip {elts : List Expr} {kk : Nat} {tpos : Pos} (hg : Gl C.X "zip") (hm : C.X.mg "zip" = none) (ha : PA C.X [e, e2] (C.Es 2 es'))
    (hs : starEach [e, e2] C.X.env = (false, eval e C.X.env) :: starEach [e2] C.X.env) (hpl : (backTo pos (starEach [e2] C.X.env)).any (·.1) = false) :
    PI C.X (.Tuple elts kk tpos) (.Call (.Name "zip" p) [e, e2] [] pos) (C.I (iZip es')) := pi_imp (RZ.pi_zipA hg hm ha hs hpl) fun σ H R ⟨ρ, dh, fr, kx, k, st, xo, ki, h⟩ => by
  refine Es_then st xo h fun ρ1 dh1 H1 ds vs st1 le1 rr z1 h1 => ?_
  cases ds with
  | nil => cases h1
  | cons x r =>
    cases r with
    | nil => cases z1
    | cons y r =>
      cases r with
      | cons _ _ => cases z1
      | nil =>
        obtain ⟨f, h2⟩ := cnd_and (show cnd (twoSq x y dh1) (k (.zp x y) dh1) false = true from h1)
        obtain ⟨v, w, rfl, r1, r2⟩ := rels2 rr
        rcases twoSq_of f with ⟨i, j, xs, ys, rfl, rfl, e1, e2⟩ | ⟨xs, ys, rfl, rfl⟩
        · obtain ⟨b, us, rfl, _, s, _⟩ := st_lst st1 r1 e1
          obtain ⟨c, us', rfl, _, s', _⟩ := st_lst st1 r2 e2
          exact ⟨b, c, us, us', rfl, .inl ⟨.inl (.inl s), .inl (.inl s'), ki ρ1 dh1 H1 _ _ st1 le1 (rel_zpL st1 r1 r2) h2⟩⟩
        · obtain ⟨b, us, rfl, s, _⟩ := rel_tup.mp r1
          obtain ⟨c, us', rfl, s', _⟩ := rel_tup.mp r2
          exact ⟨b, c, us, us', rfl, .inr ⟨C.sq s, C.sq s', ki ρ1 dh1 H1 _ _ st1 le1 (rel_zpT st1 r1 r2) h2⟩⟩
end
end Dz

set_option Elab.async false
set_option linter.all false
set_option maxRecDepth 100000
set_option maxHeartbeats 4000000
/-! Dz: comprehensions. lc_gen: the library's lc_core, with what is done within told for the block's own context. -/
namespace Dz
open PySem L2 PySem.Spec PyProof.Rows
/-- the environment of a comprehension's block -/
abbrev blkE (X : Cx) (s3 : Shared) (scope : Scope) : Env := compEnvC scope (cellsFrom (s3.heap.objs.size + 1) scope.names (cloFrom X.env.cells scope.names [])) s3.heap.objs.size X.env
/-- what is done in the block -/
def BlkRun (X : Cx) (s3 : Shared) (H3 : Hp) (σ : L2.St) (scope : Scope) (own : List (Str × Nat)) (elt tg : Expr) (ifs : List Expr) (J : L2.It) (D : Addr) (fp : List Addr) (Q : VK) : Prop :=
  ∃ (g : TG) (tt : TT) (te : TE), PG (X.blk s3 H3 scope (blkE X s3 scope) fp) tg g ∧ PTs (X.blk s3 H3 scope (blkE X s3 scope) fp) ifs tt ∧ PE (X.blk s3 H3 scope (blkE X s3 scope) fp) elt te ∧
  ∃ W : Nat → Nat → Hp → Prop, (∃ m, W 0 m H3) ∧ ∀ i m H, W i m H → (J.stop i H ∧ Q (.ref D) H) ∨ (J.go i H ∧ ∃ Nx : Hp → Prop, (∀ H', Nx H' → ∃ m', m' < m ∧ W (i + 1) m' H') ∧ ∀ x H', J.yld i H x H' →
    g x (wipe σ (own.map (·.2))) H' fun σ2 H2 => wipe σ2 (own.map (·.2)) = wipe σ (own.map (·.2)) ∧ tt σ2 H2 fun b H3 => if b = true then te σ2 H3 fun y H4 => ∃ acc, H4 D = some (.lst acc) ∧ acc.length < sizeLine ∧ Nx (L2.upd H4 D (.lst (acc ++ [y]))) else Nx H3)
theorem lc_gen {X : Cx} {pins : List (Addr × Obj)} {s : Shared} {σ : L2.St} {H : Hp} {Q : VK} {elt tg iter : Expr} {ifs : List Expr} {scope : Scope} {own : List (Str × Nat)} {pos pos' : Pos} {wi : TI} {use : Option (Value → Sem Unit)} {Qf : Value → Shared → Prop}
    (hc : X.calm = true) (hN : X.N.Nodup) (I : L2.Inv X pins σ H s) (hi : PI X tg iter wi) (ok : BlkOk X.N X.env.scope scope own) (hs : ∀ x, foldedSetIterable iter X.env x = pure x)
    (h : wi σ H fun J H1 => ∀ D, H1 D = none → ∀ (pins : List (Addr × Obj)) (s3 : Shared) (fp : List Addr), L2.Inv X pins σ (L2.upd H1 D (.lst [])) s3 → (∀ b ∈ fp, ∃ o, s3.heap.get? b = some o ∧ ∀ v, o.data ≠ .cell v) → BlkRun X s3 (L2.upd H1 D (.lst [])) σ scope own elt tg ifs J D fp Q)
    (hRR : ∀ D C s' m H', L2.Inv X pins σ H' s' → Q (.ref D) H' → s'.heap.Ns C m → FpOk X pins H' C → compPost (model X.prog X.w) X.A X.xe use Qf (.ref D) C (.ok .next) s') :
    wpAny (model X.prog X.w) X.A (comprehension (.ListComp elt [⟨tg, iter, ifs, 0⟩] scope pos) scope X.env pos' (newList []) false (eval iter X.env) use) Qf X.xe s := by
  have hfree : ∀ y ∈ scope.names, y.2 = .free → ∃ c, X.env.cells.lookup y.1 = some c := fun y hy e => by
    rcases ok.free y hy e with k | k
    · exact I.ok.has _ (.inl k)
    · exact I.ok.has _ (.inr k)
  refine wpAny_comprehension_free (use := use) rfl hs (closure_ok hfree) ok.kind (fun y hy e => by rw [ok.uniq y hy, e])
    (thn (hi.run pins s σ H _ I h) fun xv s1 hx => thn hx fun itv s2 h2 => ?_)
  obtain ⟨it, fp, tn, J, H2, e, I2, T, st2, f2, q⟩ := h2
  subst e
  refine wpAny_newObj_type (newEnv_comp ?_) (by show 0 ≤ sizeLine; decide)
  generalize hD : s2.heap.objs.size = D
  have hDn : H2 D = none := I2.hok.fresh (Nat.le_of_eq hD)
  -- the new list
  generalize hs3 : ({ s2 with heap := s2.heap.push { cls := .type "list", data := .seq ([] : List Value).toArray } } : Shared) = s3
  have I3 : Inv X pins σ (upd H2 D (.lst [])) s3 := by
    rw [← hs3]
    refine I2.laid (t' := s2.toks) (fun b o e => Heap.get?_push_of_some _ e) (Nat.le_of_eq hD) ⟨Nat.zero_le _, [], 0, .nil, ?_⟩
    rw [← hD]
    exact Heap.get?_push_size _ rfl
  have h3 : s3.heap = s2.heap.push { cls := .type "list", data := .seq ([] : List Value).toArray } := by rw [← hs3]
  have sz : ∀ b ∈ fp, b < s2.heap.objs.size := fun b hb => by
    obtain ⟨o, e, _⟩ := T.obj _ _ st2 b hb
    exact Heap.lt_size e
  have f3 : ∀ b ∈ fp, FpOk X pins (upd H2 D (.lst [])) b ∧ b < s3.heap.objs.size := fun b hb => by
    have hlt := sz b hb
    refine ⟨⟨?_, (f2 b hb).2⟩, by rw [h3, Heap.size_push]; exact Nat.lt_succ_of_lt hlt⟩
    rw [upd_ne (by rw [← hD]; exact Nat.ne_of_lt hlt)]
    exact (f2 b hb).1
  have st3 : tn 0 s3.heap := T.keep _ _ _ st2 fun b _ o e => by rw [h3]; exact Heap.get?_push_of_some _ e
  obtain ⟨g, tt, te, pg, pt, pe, W, ⟨m0, w0⟩, turn⟩ := q D hDn pins s3 fp I3 fun b hb => by
    obtain ⟨o, e, d⟩ := T.obj _ _ st3 b hb
    exact ⟨o, e, d⟩
  have I4 := block_start I3 ok hN f3
  have pg : PG (X.blk s3 (L2.upd H2 D (.lst [])) scope (compEnvC scope (cellsFrom (s3.heap.objs.size + 1) scope.names (cloFrom X.env.cells scope.names [])) s3.heap.objs.size X.env) fp) tg g := pg
  have pt : PTs (X.blk s3 (L2.upd H2 D (.lst [])) scope (compEnvC scope (cellsFrom (s3.heap.objs.size + 1) scope.names (cloFrom X.env.cells scope.names [])) s3.heap.objs.size X.env) fp) ifs tt := pt
  have pe : PE (X.blk s3 (L2.upd H2 D (.lst [])) scope (compEnvC scope (cellsFrom (s3.heap.objs.size + 1) scope.names (cloFrom X.env.cells scope.names [])) s3.heap.objs.size X.env) fp) elt te := pe
  show codeAny _ _ (.compStart (.ListComp elt [⟨tg, iter, ifs, 0⟩] scope pos) 0 (.ref it) (.ref D) (compEnvC scope (cellsFrom (s3.heap.objs.size + 1) scope.names (cloFrom X.env.cells scope.names [])) s3.heap.objs.size X.env)) (compPost (model X.prog X.w) X.A X.xe use Qf (.ref D) s3.heap.objs.size) { s3 with heap := pushCells (s3.heap.push { cls := .type "dict", data := .dict #[] }) scope.names }
  have nfp : ∀ b ∈ fp, (upd H2 D (.lst [])) b = none := fun b hb => (f3 b hb).1.1
  generalize hce : compEnvC scope (cellsFrom (s3.heap.objs.size + 1) scope.names (cloFrom X.env.cells scope.names [])) s3.heap.objs.size X.env = ce at I4 pg pt pe ⊢
  have cL : ce.locals = s3.heap.objs.size := by subst hce; rfl
  generalize hH3 : upd H2 D (.lst []) = H3 at I3 I4 pg pt pe w0 nfp f3
  generalize hs4 : ({ s3 with heap := pushCells (s3.heap.push { cls := .type "dict", data := .dict #[] }) scope.names } : Shared) = s4 at I4 ⊢
  have st4 : tn 0 s4.heap := T.keep _ _ _ st3 fun b _ o e => by rw [← hs4]; exact pushCells_keeps _ _ _ _ (Heap.get?_push_of_some _ e)
  have stat : ∀ {σ' : L2.St} {H' : Hp} {s' : Shared}, Inv (X.blk s3 H3 scope ce fp) [] σ' H' s' → (∀ b ∈ fp, H' b = none) → ∀ b ∈ fp, FpOk (X.blk s3 H3 scope ce fp) [] H' b := fun {σ' H' s'} I' hn b hb =>
    ⟨hn b hb, (I'.ok.exf b hb).1, I'.ok.exfs b hb, .inl hb, fun x c e => (I'.ok.exf b hb).2 x c e, fun p hp => absurd (show p ∈ ([] : List (Addr × Obj)) ++ [] from hp) (by simp)⟩
  have loop : codeAny (model X.prog X.w) X.A (.compLoop (.ListComp elt [⟨tg, iter, ifs, 0⟩] scope pos) 0 (.ref it) (.ref D) ce) (compPost (model X.prog X.w) X.A X.xe use Qf (.ref D) s3.heap.objs.size) s4 := by
    refine compLoop_any (fun n s' => ∃ i H', Inv (X.blk s3 H3 scope ce fp) [] (wipe σ (own.map (·.2))) H' s' ∧ tn i s'.heap ∧ (∀ b ∈ fp, H' b = none) ∧ W i n H') ?_ m0 ⟨0, H3, I4, st4, nfp, w0⟩
    rintro n s5 ⟨i, H5, I5, st5, n5, w5⟩
    rcases turn i n H5 w5 with ⟨stop, qq⟩ | ⟨go, Nx, hNx, step⟩
    · have td := T.done (X.blk s3 H3 scope ce fp) rfl rfl rfl hc i [] s5 _ H5 (fun _ _ => False) I5 (stat I5 n5) st5 stop
      refine thnF td fun r s6 ⟨hr, I6⟩ => ?_
      subst hr
      -- back in the def's context
      have I7 : Inv X pins σ H5 s6 := I3.call' (ch := fp) I6.os I6.base I6.hok I6.bare fun b hb => ⟨(f3 b hb).1.2.2.2.1, (f3 b hb).1.2.1, (f3 b hb).1.2.2.2.2.1, (f3 b hb).1.2.2.2.2.2⟩
      have nC : H5 s3.heap.objs.size = none := by
        have z : H5 ce.locals = none := I6.free
        rw [cL] at z
        exact z
      obtain ⟨m, hn, _⟩ := I6.loc
      have hn : s6.heap.Ns ce.locals m := hn
      rw [cL] at hn
      exact hRR D s3.heap.objs.size s6 m H5 I7 qq hn (I3.fpOk (Nat.le_refl _) nC)
    · have ti := T.item (X.blk s3 H3 scope ce fp) rfl rfl rfl hc i [] s5 _ H5 (fun _ _ => False) I5 (stat I5 n5) st5 go
      refine thnF ti fun r s6 ⟨u, hr, h6⟩ => ?_
      subst hr
      refine thnF h6 fun _ s7 ⟨x, H7, I7, r7, y7, st7, n7⟩ => ?_
      have I7' := I7.pinned (stat I7 n7) (T.obj _ _ st7)
      refine thnF (pg.run _ s7 _ H7 x u _ I7' r7 (step x H7 y7)) fun _ s8 ⟨σ8, H8, I8, hw8, q8⟩ => ?_
      refine thnF (pt.run _ s8 σ8 H8 _ I8 q8) fun b s9 ⟨H9, I9, q9⟩ => ?_
      -- the turn's end
      have fin : ∀ {s' : Shared} {H' : Hp}, Inv (X.blk s3 H3 scope ce fp) ([] ++ pinsAt fp s7.heap) σ8 H' s' → Nx H' → ∃ m, m < n ∧ ∃ i H', Inv (X.blk s3 H3 scope ce fp) [] (wipe σ (own.map (·.2))) H' s' ∧ tn i s'.heap ∧ (∀ b ∈ fp, H' b = none) ∧ W i m H' := fun {s' H'} I' nx => by
        obtain ⟨m', hm, w'⟩ := hNx H' nx
        have pin' : ∀ b ∈ fp, ∀ o, s7.heap.get? b = some o → s'.heap.get? b = some o ∧ H' b = none := fun b hb o e =>
          let z := I'.pin (b, o) (List.mem_append_right _ (List.mem_append_right _ (mem_pinsAt hb e)))
          ⟨z.1, z.2.1⟩
        have hl : (wipe σ (own.map (·.2))).length = σ8.length := by rw [← hw8, wipe_length]
        refine ⟨m', hm, i + 1, H', (I'.unpinned (pins := [])).weak hl (fun j v e => ?_), T.keep _ _ _ st7 fun b hb o e => (pin' b hb o e).1, fun b hb => ?_, w'⟩
        · rw [← hw8] at e
          exact (wipe_some e).1
        · obtain ⟨o, e, _⟩ := T.obj _ _ st7 b hb
          exact (pin' b hb o e).2
      cases b with
      | false =>
        simp only [Bool.false_eq_true, if_false] at q9 ⊢
        exact fin I9 q9
      | true =>
        simp only [if_true] at q9 ⊢
        refine thnF (pe.run _ s9 σ8 H9 _ I9 q9) fun z s10 ⟨yv, H10, I10, r10, acc, hD10, hz10, nx⟩ => ?_
        exact app_ok (X := X.blk s3 H3 scope ce fp) I10 hD10 hz10 r10 fun s11 I11 => fin I11 nx
  exact codeAny_compStart_list loop (T.self X.A 0 _ _ _ st4 loop)
/-- as a value -/
def tLcG (X : Cx) (wi : TI) (scope : Scope) (own : List (Str × Nat)) (elt tg : Expr) (ifs : List Expr) : TE := fun σ H Q => wi σ H fun J H1 => ∀ D, H1 D = none → ∀ (pins : List (Addr × Obj)) (s3 : Shared) (fp : List Addr), L2.Inv X pins σ (L2.upd H1 D (.lst [])) s3 → (∀ b ∈ fp, ∃ o, s3.heap.get? b = some o ∧ ∀ v, o.data ≠ .cell v) → BlkRun X s3 (L2.upd H1 D (.lst [])) σ scope own elt tg ifs J D fp Q
theorem pe_lcg {X : Cx} {elt tg iter : Expr} {ifs : List Expr} {scope : Scope} {own : List (Str × Nat)} {pos : Pos} {wi : TI} (hc : X.calm = true) (hN : X.N.Nodup) (hi : PI X tg iter wi) (ok : BlkOk X.N X.env.scope scope own) (hs : ∀ x, foldedSetIterable iter X.env x = pure x) :
    PE X (.ListComp elt [⟨tg, iter, ifs, 0⟩] scope pos) (tLcG X wi scope own elt tg ifs) := by
  refine ⟨fun pins s σ H Q I h => ?_⟩
  rw [eval_ListComp]
  refine lc_gen hc hN I hi ok hs h fun D C s' m H' I' q hn f => ⟨m, hn, fun h'' sb => ?_⟩
  obtain ⟨f0, f1, f2, f3, f4, f5⟩ := f
  exact ⟨.ref D, H', I'.turned (t' := s'.toks) (fun b o hb e => (sb.2 b hb).trans e) f0 f1 f3 f4 f5, rfl, q⟩
end Dz

set_option Elab.async false
set_option linter.all false
set_option maxRecDepth 100000
set_option maxHeartbeats 2000000
/-! Dz: list comprehensions. -/
namespace Dz
open PySem L2
/-- what a value's reading leans on, kept -/
structure Lw (ρ : List Loc) (H : Hp) (ρ' : List Loc) (H' : Hp) : Prop where
  tups : ∀ a xs, H a = some (.tup xs) → H' a = some (.tup xs)
  lams : ∀ f L cl c, H f = some (LamO f L cl c) → H' f = some (LamO f L cl c)
  codes : ∀ c q, H c = some (LamX.CodeO c q) → H' c = some (LamX.CodeO c q)
  at_ : ∀ (i : Nat) (a : Loc), ρ[i]? = some a → ρ'[i]? = some a
  frzs : ∀ a o u, H a = some (.frz o u) → H' a = some (.frz o u)
mutual
theorem RelD.lw {G : Gv} {ρ ρ' : List Loc} {H H' : Hp} (w : Lw ρ H ρ' H') : ∀ {d : DV} {v : V}, RelD G ρ H d v → RelD G ρ' H' d v
  | .non, v, h => rel_non.mpr (rel_non.mp h)
  | .bl b, v, h => rel_bl.mpr (rel_bl.mp h)
  | .int i, v, h => rel_int.mpr (rel_int.mp h)
  | .str x, v, h => rel_str.mpr (rel_str.mp h)
  | .tup xs, v, h => by
    obtain ⟨a, vs, e, s, r⟩ := rel_tup.mp h
    exact rel_tup.mpr ⟨a, vs, e, w.tups a vs s, RelDs.lw w r⟩
  | .ref i, v, h => by
    obtain ⟨a, e, r⟩ := rel_ref.mp h
    exact rel_ref.mpr ⟨a, e, w.at_ i _ r⟩
  | .fn k caps, v, h => by
    obtain ⟨a, e, r⟩ := rel_fn.mp h
    refine rel_fn.mpr ⟨a, e, ?_⟩
    rcases r with r | ⟨L, cl, c, h1, h2, h3, h4, h5, h6⟩
    · exact .inl r
    · refine .inr ⟨L, cl, c, h1, w.lams _ L cl c h2, w.codes c _ h3, h4, h5, fun i y b e => ?_⟩
      obtain ⟨j, e1, e2⟩ := h6 i y b e
      exact ⟨j, e1, w.at_ _ _ e2⟩
  | .exn _ _, _, h => absurd h rel_exn
  | .cl _, _, h => by
    obtain ⟨a, ns, e, l, q⟩ := rel_cl.mp h
    exact rel_cl.mpr ⟨a, ns, e, l, q.imp (fun ⟨o, z⟩ => ⟨o, w.frzs a _ _ z⟩) id⟩
theorem RelDs.lw {G : Gv} {ρ ρ' : List Loc} {H H' : Hp} (w : Lw ρ H ρ' H') : ∀ {ds : List DV} {vs : List V}, RelDs G ρ H ds vs → RelDs G ρ' H' ds vs
  | [], vs, h => rels_nil.mpr (rels_nil.mp h)
  | x :: xs, vs, h => by
    obtain ⟨v, r, e, r1, r2⟩ := rels_cons.mp h
    exact rels_cons.mpr ⟨v, r, e, RelD.lw w r1, RelDs.lw w r2⟩
end
section
variable {G : Gv} {X : Cx} {n0 : Ent} {cs : List Nat} {ρ ρ' : List Loc} {dh : DH} {fr : Fr} {σ : L2.St} {H H' : Hp}
theorem DicAt.lw {a : Addr} {kvs : List DP} (w : Lw ρ H ρ' H') (e : ∀ o, H a = some o → H' a = some o) (h : DicAt G ρ H a kvs) : DicAt G ρ' H' a kvs := by
  rcases h with ⟨ks, h0, h1, h2, h3⟩ | ⟨ks, h1, h2, h3⟩
  · exact .inl ⟨ks, h0, e _ h1, h2, RelDs.lw w h3⟩
  · exact .inr ⟨ks, e _ h1, h2, RelDs.lw w h3⟩
theorem DicN.lw {a : Addr} {kvs : List DP} (w : Lw ρ H ρ' H') (e : ∀ o, H a = some o → H' a = some o) (h : DicN G ρ H a kvs) : DicN G ρ' H' a kvs := by
  obtain ⟨xs, vs, h1, h2, h3, h4, h5⟩ := h
  exact ⟨xs, vs, e _ h1, h2, RelDs.lw w h3, RelDs.lw w h4, h5⟩
theorem ObjRel.lw {i : Nat} {l : Loc} {o : DObj} (w : Lw ρ H ρ' H') (e : ∀ a o, l = .ob a → H a = some o → H' a = some o) (c : ∀ a o, H a = some (CellO a o) → H' a = some (CellO a o)) (h : ObjRel G X n0 cs σ ρ H i l o) : ObjRel G X n0 cs σ ρ' H' i l o := by
  cases o with
  | lst xs =>
    obtain ⟨a, vs, h0, h1, h2⟩ := h
    exact ⟨a, vs, h0, e a _ h0 h1, RelDs.lw w h2⟩
  | dic kvs =>
    obtain ⟨a, h0, h1⟩ := h
    exact ⟨a, h0, DicAt.lw w (fun o q => e a o h0 q) h1⟩
  | cell od =>
    obtain ⟨a, ov, h0, ck, h⟩ := h
    refine ⟨a, ov, h0, ck.later c, fun d hd => ?_⟩
    obtain ⟨v, h1, h2⟩ := h d hd
    exact ⟨v, h1, RelD.lw w h2⟩
  | pot =>
    obtain ⟨a, x, y, h0, h1, h2⟩ := h
    exact ⟨a, x, y, h0, e a _ h0 h1, h2⟩
  | busy kvs =>
    obtain ⟨a, h0, h1⟩ := h
    exact ⟨a, h0, h1.lw w fun o q => e a o h0 q⟩
theorem FrRel.lw (w : Lw ρ H ρ' H') (h : FrRel G X n0 cs σ ρ H dh fr) : FrRel G X n0 cs σ ρ' H' dh fr := fun i d e => by
  rcases h i d e with ⟨n, v, h1, h2⟩ | ⟨n, c, a, x, h1, h2, h3, h4, h5, h0, h6⟩
  · exact .inl ⟨n, v, h1, RelD.lw w h2⟩
  · refine .inr ⟨n, c, a, x, h1, w.at_ _ _ h2, h3, h4, h5, h0, fun d' e' => ?_⟩
    obtain ⟨v, z1, z2⟩ := h6 d' e'
    exact ⟨v, z1, RelD.lw w z2⟩
/-- a list beside the data is written -/
theorem lw_side {D : Addr} {xs ys : List V} (hD : H D = some (.lst xs)) : Lw ρ H ρ (L2.upd H D (.lst ys)) := by
  have k : ∀ a o, H a = some o → (∀ zs, o ≠ .lst zs) → L2.upd H D (.lst ys) a = some o := fun a o h n => by
    rw [upd_ne]
    · exact h
    · intro e; subst e; rw [hD] at h; cases h; exact n xs rfl
  refine ⟨fun a zs h => ?_, fun f L cl c h => k _ _ h (fun _ z => nomatch z), fun c q h => k _ _ h (fun _ z => nomatch z), fun _ _ h => h, fun a o u h => k _ _ h (fun _ z => nomatch z)⟩
  exact k _ _ h (fun _ z => nomatch z)
theorem st_side {D : Addr} {xs ys : List V} (st : StRel G X n0 cs ρ dh fr σ H) (hD : H D = some (.lst xs)) (hn : Loc.ob D ∉ ρ) : StRel G X n0 cs ρ dh fr σ (L2.upd H D (.lst ys)) := by
  have w : Lw ρ H ρ (L2.upd H D (.lst ys)) := lw_side hD
  refine ⟨⟨st.hr.len, st.hr.nd, st.hr.low, fun i l e => ?_, tabs_put st.hr.tabs hD (fun _ z => nomatch z) (fun _ z => nomatch z)⟩, st.sl.lw w, st.fl, st.wl, st.old⟩
  obtain ⟨o, h1, h2⟩ := st.hr.obj i l e
  refine ⟨o, h1, h2.lw w (fun a u hl hu => ?_) fun a u hu => ?_⟩
  · rw [upd_ne]
    · exact hu
    · intro z; subst z; subst hl; exact hn (List.mem_of_getElem? e)
  · rw [upd_ne]
    · exact hu
    · intro z; subst z; rw [hD] at hu; cases hu
/-- .. and the way from a time ahead of it -/
theorem le_side {ρ0 : List Loc} {H0 : Hp} {D : Addr} {xs ys : List V} (le : Le ρ0 H0 ρ H) (h0 : H0 D = none) (hD : H D = some (.lst xs)) : Le ρ0 H0 ρ (L2.upd H D (.lst ys)) := by
  have k : ∀ a o, H0 a = some o → L2.upd H D (.lst ys) a = H a := fun a o h => by
    rw [upd_ne]
    intro e; subst e; rw [h0] at h; cases h
  refine ⟨le.pre, fun a o h n t => by rw [k a o h]; exact le.keep a o h n t, fun a h => ?_, fun a o h => by rw [k _ _ h]; exact le.cells a o h, fun f L cl c h => by rw [k _ _ h]; exact le.lams f L cl c h, fun c q h => by rw [k _ _ h]; exact le.codes c q h⟩
  by_cases e : a = D
  · subst e; exact h0
  · rw [upd_ne e] at h; exact le.there a h
/-- a list beside the data becomes one of the data -/
theorem st_adopt {D : Addr} {ds : List DV} {vs : List V} (st : StRel G X n0 cs ρ dh fr σ H) (hD : H D = some (.lst vs)) (hn : Loc.ob D ∉ ρ) (r : RelDs G ρ H ds vs) : StRel G X n0 cs (ρ ++ [.ob D]) (dh.new (.lst ds)) fr σ H := by
  have w : Lw ρ H (ρ ++ [.ob D]) H := ⟨fun _ _ h => h, fun _ _ _ _ h => h, fun _ _ h => h, fun i a h => by rw [List.getElem?_append_left (List.getElem?_eq_some_iff.mp h).1]; exact h, fun _ _ _ h => h⟩
  refine ⟨⟨?_, fun i j l e1 e2 => ?_, ?_, fun i l e => ?_, st.hr.tabs⟩, ?_, st.fl, st.wl, fun i hi o e => ?_⟩
  · rw [new_n, st.hr.len]; simp
  · rcases get_snoc e1 with e1 | ⟨i1, a1⟩ <;> rcases get_snoc e2 with e2 | ⟨i2, a2⟩
    · exact st.hr.nd i j l e1 e2
    · rw [a2] at e1; exact absurd (List.mem_of_getElem? e1) hn
    · rw [a1] at e2; exact absurd (List.mem_of_getElem? e2) hn
    · rw [i1, i2]
  · have := st.hr.low
    simp; omega
  · rcases get_snoc e with e | ⟨e1, e2⟩
    · obtain ⟨u, h1, h2⟩ := st.hr.obj i l e
      have hi : i < ρ.length := (List.getElem?_eq_some_iff.mp e).1
      exact ⟨u, by rw [get_new_ne _ _ (by rw [st.hr.len]; omega)]; exact h1, h2.lw w (fun _ _ _ q => q) fun _ _ q => q⟩
    · subst e1; subst e2
      refine ⟨.lst ds, by rw [← st.hr.len]; exact get_new_same dh _, ?_⟩
      show ∃ a us, Loc.ob D = .ob a ∧ H a = some (.lst us) ∧ RelDs G (ρ ++ [.ob D]) H ds us
      exact ⟨D, vs, rfl, hD, RelDs.lw w r⟩
  · intro i d e
    rcases st.sl i d e with ⟨n, v, h1, h2⟩ | ⟨n, c, a, x, h1, h2, h3, h4, h5, h0, h6⟩
    · exact .inl ⟨n, v, h1, RelD.lw w h2⟩
    · refine .inr ⟨n, c, a, x, h1, w.at_ _ _ h2, h3, h4, h5, h0, fun d' e' => ?_⟩
      rw [get_new_ne _ _ (by have := (List.getElem?_eq_some_iff.mp h2).1; rw [st.hr.len]; omega)] at e'
      obtain ⟨v, z1, z2⟩ := h6 d' e'
      exact ⟨v, z1, RelD.lw w z2⟩
  · rw [get_new_ne _ _ (by have := st.hr.low; rw [st.hr.len]; omega)]; exact st.old i hi o e
theorem le_adopt {ρ0 : List Loc} {H0 : Hp} {D : Addr} (le : Le ρ0 H0 ρ H) (h0 : H0 D = none) : Le ρ0 H0 (ρ ++ [.ob D]) H := by
  obtain ⟨m, e, f⟩ := le.pre
  refine ⟨⟨m ++ [.ob D], by rw [e, List.append_assoc], fun a ha => ?_⟩, le.keep, le.there, le.cells, le.lams, le.codes⟩
  rcases List.mem_append.mp ha with z | z
  · exact f a z
  · have : a = D := by simpa using z
    subst this; exact h0
end
end Dz

set_option Elab.async false
set_option linter.all false
set_option maxRecDepth 100000
set_option maxHeartbeats 4000000
/-! Dz: list comprehensions: the rule. -/
namespace Dz
open PySem L2
theorem cells_no : ∀ (l : List (Str × NameKind)) (n : Nat) (acc : List (Str × Addr)), (∀ y ∈ l, y.2 ≠ .cell) → cellsFrom n l acc = acc
  | [], _, _, _ => rfl
  | (x, k) :: r, n, acc, h => by
    have hk : k ≠ .cell := h _ (.head _)
    unfold cellsFrom
    have : (k == NameKind.cell) = false := by cases k <;> first | rfl | exact absurd rfl hk
    rw [this]
    exact cells_no r n acc fun z hz => h z (.tail _ hz)
theorem cells_old {x : Str} : ∀ (l : List (Str × NameKind)) (n : Nat) (acc : List (Str × Addr)), (x, NameKind.cell) ∉ l → (cellsFrom n l acc).lookup x = acc.lookup x
  | [], _, _, _ => rfl
  | (y, k) :: r, n, acc, h => by
    unfold cellsFrom
    split
    · rename_i hk
      have hk : k = .cell := by simpa using hk
      rw [cells_old r _ _ fun z => h (.tail _ z), List.lookup_cons]
      have : (x == y) = false := by
        rw [beq_eq_false_iff_ne]
        intro e
        subst e hk
        exact h (.head _)
      rw [this]
    · exact cells_old r _ _ fun z => h (.tail _ z)
theorem cells_two {x : Str} {a : Addr} : ∀ {l : List (Str × NameKind)} {n : Nat} {acc : List (Str × Addr)}, (x, a) ∈ cellsFrom n l acc → (x, a) ∈ acc ∨ n ≤ a
  | [], _, _, h => .inl h
  | (y, k) :: r, n, acc, h => by
    unfold cellsFrom at h
    split at h
    · rcases cells_two h with h | h
      · rcases List.mem_cons.mp h with e | h
        · cases e; exact .inr (Nat.le_refl _)
        · exact .inl h
      · exact .inr (Nat.le_of_succ_le h)
    · exact cells_two h
theorem bDrop_get {fr : Fr} : ∀ {drop : List Nat} {i : Nat} {d : DV}, (bDrop drop fr)[i]? = some (some d) → i ∉ drop ∧ fr[i]? = some (some d)
  | [], _, _, h => ⟨by simp, h⟩
  | j :: r, i, d, h => by
    have h : (setAt (bDrop r fr) j none)[i]? = some (some d) := h
    rw [setAt_eq] at h
    rcases set_get h with ⟨_, e, _⟩ | ⟨n, h⟩
    · cases e
    · obtain ⟨h1, h2⟩ := bDrop_get h
      exact ⟨by simp [n, h1], h2⟩
theorem bDrop_len {fr : Fr} : ∀ drop : List Nat, (bDrop drop fr).length = fr.length
  | [] => rfl
  | j :: r => by
    show (setAt (bDrop r fr) j none).length = _
    rw [setAt_eq, List.length_set, bDrop_len r]
theorem wipe_get {σ : L2.St} : ∀ (vs : List Nat) (i : Nat), (wipe σ vs)[i]? = if i ∈ vs ∧ i < σ.length then some none else σ[i]?
  | [], i => by simp [wipe]
  | v :: vs, i => by
    unfold wipe
    by_cases e : i = v
    · subst e
      by_cases h : i < σ.length
      · rw [get_set_same (by rw [wipe_length]; exact h), if_pos ⟨.head _, h⟩]
      · rw [List.getElem?_eq_none (by rw [List.length_set, wipe_length]; omega), if_neg (fun z => h z.2), List.getElem?_eq_none (by omega)]
    · rw [get_set_ne e, wipe_get vs i]
      by_cases h : i ∈ vs ∧ i < σ.length
      · rw [if_pos h, if_pos ⟨.tail _ h.1, h.2⟩]
      · rw [if_neg h, if_neg]
        rintro ⟨z, z2⟩
        rcases List.mem_cons.mp z with z | z
        · exact e z
        · exact h ⟨z, z2⟩
theorem wipe_same {σ σ' : L2.St} {vs : List Nat} (h : ∀ i, i ∉ vs → σ'[i]? = (wipe σ vs)[i]?) (hl : σ'.length = σ.length) : wipe σ' vs = wipe σ vs := by
  apply List.ext_getElem?
  intro i
  rw [wipe_get, wipe_get, hl]
  by_cases hi : i ∈ vs ∧ i < σ.length
  · rw [if_pos hi, if_pos hi]
  · rw [if_neg hi, if_neg hi]
    by_cases h2 : i ∈ vs
    · have : ¬ i < σ.length := fun z => hi ⟨h2, z⟩
      rw [List.getElem?_eq_none (by omega), List.getElem?_eq_none (by omega)]
    · rw [h i h2, wipe_get, if_neg (fun z => h2 z.1)]
theorem vis_relabel {scope : Scope} {env : Env} {x : Str} (h : scope.names.lookup x = some .free) : Vis (relabel scope env) x := by
  have go : ∀ l : List (Str × NameKind), l.lookup x = some .free → (l.map fun (n, k) => if (k == NameKind.free && env.scope.kind == .function && env.kindOf n == some .cell) then (n, NameKind.cell) else (n, k)).lookup x = some .cell ∨ (l.map fun (n, k) => if (k == NameKind.free && env.scope.kind == .function && env.kindOf n == some .cell) then (n, NameKind.cell) else (n, k)).lookup x = some .free := fun l => by
    induction l with
    | nil => intro h; cases h
    | cons y r ih =>
      obtain ⟨n, k⟩ := y
      intro h
      rw [List.map_cons]
      by_cases e : x = n
      · subst e
        rw [List.lookup_cons_self] at h
        cases h
        simp only
        split
        · exact .inl (by rw [List.lookup_cons_self])
        · exact .inr (by rw [List.lookup_cons_self])
      · have e' : (x == n) = false := by simpa using e
        rw [List.lookup_cons, e'] at h
        simp only
        split
        · rw [List.lookup_cons, e']; exact ih h
        · rw [List.lookup_cons, e']; exact ih h
  rcases go _ h with z | z
  · exact .inr (.inl z)
  · exact .inr (.inr z)
/-- a comprehension's block, by its text -/
structure BlkS (C : Sc) (scope : Scope) (own : List (Str × Nat)) (drop cs' : List Nat) : Prop where
  ok : BlkOk C.X.N C.X.env.scope scope own
  vis : ∀ i ∈ cs', i ∈ C.cs ∧ ∃ x, C.X.N[i]? = some x ∧ (x, NameKind.free) ∈ scope.names
  hid : ∀ i ∈ C.cs, i ∉ cs' → i ∈ drop
  own : ∀ i ∈ own.map (·.2), i ∈ drop
section
variable {C : Sc} {ρ : List Loc} {dh : DH} {fr : Fr} {σ : L2.St} {H : Hp} {pins : List (Addr × Obj)} {s3 : Shared} {scope : Scope} {own : List (Str × Nat)} {drop cs' : List Nat} {fp : List Addr}
/-- the block's context -/
def blkC (C : Sc) (ρ : List Loc) (dh : DH) (H : Hp) (σ : L2.St) (s3 : Shared) (scope : Scope) (fp : List Addr) (cs' : List Nat) (I : Inv C.X pins σ H s3) (hf : ∀ y ∈ scope.names, y.2 = .free → ∃ c, C.X.env.cells.lookup y.1 = some c) : Sc where
  G := C.G
  X := C.X.blk s3 H scope (blkE C.X s3 scope) fp
  n0 := ⟨ρ.length, dh⟩
  cs := cs'
  W := fun _ _ _ _ => False
  k := C.k
  hK := C.hK
  hw := C.hw
  hu := C.hu
  hr := C.hr
  hg := C.hg
  tk := fun u s' ⟨_, _, _, _, _, _, _, _, _, _, _, _, _, _, _, _, w⟩ => w.elim
  hN := C.hN
  hfs := fun x a e z => by
    have e : (cellsFrom (s3.heap.objs.size + 1) scope.names (cloFrom C.X.env.cells scope.names [])).lookup x = some a := e
    rcases cells_two (PySem.mem_of_lookup e) with hm | hm
    · have e : C.X.env.cells.lookup x = some a := by
        rcases cloFrom_mem hm with hm | ⟨h1, h2⟩
        · cases hm
        · obtain ⟨c, hc⟩ := hf _ h1 rfl
          have hc : C.X.env.cells.lookup x = some c := hc
          rw [hc] at h2
          have h2 : a = c := h2
          rw [hc, h2]
      rcases stk_mem I z with e2 | e2
      · exact I.cne x a e e2
      · exact C.hfs x a e e2
    · obtain ⟨_, o, ho, _⟩ := I.stack.mem z
      exact absurd (Nat.lt_of_lt_of_le (Heap.lt_size ho) (Nat.le_of_succ_le hm)) (Nat.lt_irrefl _)
  hinj := fun x y c e1 e2 => by
    have e1 : (cellsFrom (s3.heap.objs.size + 1) scope.names (cloFrom C.X.env.cells scope.names [])).lookup x = some c := e1
    have e2 : (cellsFrom (s3.heap.objs.size + 1) scope.names (cloFrom C.X.env.cells scope.names [])).lookup y = some c := e2
    have cm : ∀ {y c}, (y, c) ∈ cloFrom C.X.env.cells scope.names [] → C.X.env.cells.lookup y = some c ∧ c < s3.heap.objs.size := fun {y c} hm => by
      rcases cloFrom_mem hm with hm | ⟨h1, h2⟩
      · cases hm
      · obtain ⟨c', hc⟩ := hf _ h1 rfl
        have hc : C.X.env.cells.lookup y = some c' := hc
        rw [hc] at h2
        have h2 : c = c' := h2
        subst h2
        obtain ⟨w, z⟩ := I.cell _ _ hc
        exact ⟨hc, z.lt⟩
    rw [← Heap.size_push s3.heap { cls := .type "dict", data := .dict #[] }] at e1 e2
    refine cells_inj (fun p hp => ?_) (fun y z c a b => C.hinj y z c (cm a).1 (cm b).1) (PySem.mem_of_lookup e1) (PySem.mem_of_lookup e2)
    rw [Heap.size_push]
    exact Nat.lt_succ_of_lt (cm (y := p.1) (c := p.2) hp).2
theorem free_has (I : Inv C.X pins σ H s3) (b : BlkS C scope own drop cs') : ∀ y ∈ scope.names, y.2 = .free → ∃ c, C.X.env.cells.lookup y.1 = some c := fun y hy e => by
  rcases b.ok.free y hy e with k | k
  · exact I.ok.has _ (.inl k)
  · exact I.ok.has _ (.inr k)
theorem blk_start (I : Inv C.X pins σ H s3) (b : BlkS C scope own drop cs') (st : C.St ρ dh fr σ H) (hfp : ∀ b ∈ fp, ∃ o, s3.heap.get? b = some o ∧ ∀ v, o.data ≠ .cell v) :
    (blkC C ρ dh H σ s3 scope fp cs' I (free_has I b)).St ρ dh (bDrop drop fr) (wipe σ (own.map (·.2))) H := by
  refine ⟨heap_in (ent_of I st) rfl rfl rfl (fun a o w h1 h2 z => ?_), fun i d e => ?_, by rw [bDrop_len, wipe_length]; exact st.fl, by rw [wipe_length]; exact st.wl, fun i hi o e => e⟩
  · obtain ⟨o', h3, h4⟩ := hfp a z
    rw [h1] at h3; cases h3
    exact h4 w h2
  · obtain ⟨hd, e⟩ := bDrop_get e
    rcases st.sl i d e with ⟨n, v, h1, h2⟩ | ⟨n, c, a, x, h1, h2, h3, h4, h5, h0, h6⟩
    · refine .inl ⟨fun z => n (b.vis i z).1, v, ?_, h2⟩
      rw [wipe_get, if_neg (fun z => hd (b.own i z.1))]
      exact h1
    · have hc' : i ∈ cs' := by
        by_cases z : i ∈ cs'
        · exact z
        · exact absurd (b.hid i n z) hd
      obtain ⟨_, y, q1, q2⟩ := b.vis i hc'
      rw [h3] at q1; cases q1
      have hlk : scope.names.lookup x = some .free := b.ok.uniq (x, .free) q2
      refine .inr ⟨hc', c, a, x, h1, h2, h3, ?_, ?_, fun z => ?_, fun d' e' => ?_⟩
      · show (cellsFrom (s3.heap.objs.size + 1) scope.names (cloFrom C.X.env.cells scope.names [])).lookup x = some a
        rw [cells_old _ _ _ fun z => by have := b.ok.uniq _ z; rw [hlk] at this; cases this]
        exact NdefX.clo_has (free_has I b) q2 h4
      · show Vis (relabel scope C.X.env) x
        exact vis_relabel hlk
      · have z : (scope.names.lookup x == some .cell) = true := z
        rw [hlk] at z; cases z
      · obtain ⟨v, z1, z2⟩ := h6 d' e'
        refine ⟨v, ?_, z2⟩
        rw [wipe_get, if_neg (fun z => hd (b.own i z.1))]
        exact z1
end
section
variable {C : Sc} {elt tg iter : Expr} {ifs : List Expr} {scope : Scope} {own : List (Str × Nat)} {drop cs' : List Nat} {pos : Pos} {it : Ix} {g : Gx} {c : Tx} {a : Ex}
theorem heap_any {G : Gv} {X : Cx} {n0 : Ent} {cs : List Nat} {σ σ' : L2.St} {ρ : List Loc} {H : Hp} {dh : DH} (hfn : ∀ j ∈ cs, ∀ x, X.N[j]? = some x → X.fn x = false) (h : HeapRel G X n0 cs σ ρ H dh) : HeapRel G X n0 cs σ' ρ H dh := by
  refine ⟨h.len, h.nd, h.low, fun i l e => ?_, h.tabs⟩
  obtain ⟨o, h1, h2⟩ := h.obj i l e
  refine ⟨o, h1, ?_⟩
  cases o with
  | lst xs => exact h2
  | dic kvs => exact h2
  | pot => exact h2
  | busy kvs => exact h2
  | cell od =>
    obtain ⟨a, ov, h0, ck, h⟩ := h2
    refine ⟨a, ov, h0, ?_, h⟩
    cases ck with
    | own j x hj hm hc hv hf hs => have := hfn j hm x hj; rw [hf] at this; cases this
    | st o w hi ho hd hH hf he hv => exact .st o w hi ho hd hH hf he hv
    | tr o w hH hd hv => exact .tr o w hH hd hv
theorem out_cell {G : Gv} {h : Heap} {fs : List Addr} {ρ ρ' : List Loc} {dh dh' : DH} {H H' Hx : Hp} (e : EntR G h fs ρ Hx dh) (o : Out G ρ dh H ρ' dh' H') {c : Nat} {d : Option DV} (hc : c < ρ.length) (q : dh'.get c = some (.cell d)) : dh.get c = some (.cell d) := by
  obtain ⟨l', el⟩ : ∃ l', ρ[c]? = some l' := ⟨ρ[c], List.getElem?_eq_getElem hc⟩
  obtain ⟨ob, g1, g2⟩ := e.obj c l' el
  obtain ⟨ob2, k1, k2⟩ := o.obj c l' (o.le.at el)
  rw [q] at k1; cases k1
  rcases k2 with ⟨_, k2⟩ | ⟨a, ov, h0, _⟩
  · exact k2
  · subst h0
    cases ob with
    | cell od =>
      have := o.old c hc od g1
      rw [q] at this; cases this
      exact g1
    | lst xs => obtain ⟨_, _, z, _⟩ := g2; cases z
    | dic xs => obtain ⟨_, z, _⟩ := g2; cases z
    | pot => obtain ⟨_, _, _, z, _⟩ := g2; cases z
    | busy xs => obtain ⟨_, z, _⟩ := g2; cases z
/-- what is said of a block's inside -/
def InBlk (C : Sc) (scope : Scope) (own : List (Str × Nat)) (cs' : List Nat) (elt tg : Expr) (a : Ex) (g : Gx) (T : Sc → Prop) : Prop :=
  ∀ (C' : Sc) (s3 : Shared) (H3 : Hp) (fp : List Addr), C'.G = C.G → C'.k = C.k → C'.cs = cs' → C'.X = C.X.blk s3 H3 scope (blkE C.X s3 scope) fp → PG C'.X tg (C'.Tg (own.map (·.2)) g) ∧ PE C'.X elt (C'.E a) ∧ T C'
theorem lc_imp (hc : C.X.calm = true) (b : BlkS C scope own drop cs') (hb : InBlk C scope own cs' elt tg a g fun _ => True) (σ : L2.St) (H : Hp) (Q : VK) (h0 : C.E (cLc drop a g it) σ H Q) : tLcG C.X (C.I it) scope own elt tg [] σ H Q := by
  obtain ⟨ρ, dh, fr, kx, k, st, xo, ko, h⟩ := h0
  refine ⟨ρ, dh, fr, kx, _, st, xo, fun ρ1 dh1 H1 j J st1 le1 rj h1 => ?_, h⟩
  intro D hD pins s3 fp I hfp
  have st3 : C.St ρ1 dh1 fr σ (L2.upd H1 D (.lst [])) := st_upd st1 hD
  have hst := blk_start I b st3 hfp
  have hf := free_has I b
  generalize hC : blkC C ρ1 dh1 (L2.upd H1 D (.lst [])) σ s3 scope fp cs' I hf = C' at hst
  have hX : C'.X = C.X.blk s3 (L2.upd H1 D (.lst [])) scope (blkE C.X s3 scope) fp := by rw [← hC]; rfl
  have hG : C'.G = C.G := by rw [← hC]; rfl
  have hK : C'.X.K = C.X.K := by rw [hX]
  have hn0 : C'.n0 = ⟨ρ1.length, dh1⟩ := by rw [← hC]; rfl
  have hcs : C'.cs = cs' := by rw [← hC]; rfl
  have hk : C'.k = C.k := by rw [← hC]; rfl
  obtain ⟨hg, he, _⟩ := hb C' s3 (L2.upd H1 D (.lst [])) fp hG hk hcs hX
  rw [hX] at hg he
  have hfn : ∀ j ∈ C'.cs, ∀ x, C'.X.N[j]? = some x → C'.X.fn x = false := fun j hj x hx => by
    rw [hcs] at hj
    rw [hX] at hx ⊢
    obtain ⟨_, y, q1, q2⟩ := b.vis j hj
    have hx : C.X.N[j]? = some x := hx
    rw [q1] at hx; cases hx
    show (scope.names.lookup x == some .cell) = false
    rw [b.ok.uniq (x, .free) q2]; rfl
  have ent0 := ent_of I st3
  -- out of the block's state: what has become of the data
  have outB : ∀ {ρ' : List Loc} {dh' : DH} {fr' : Fr} {σ' : L2.St} {H' : Hp}, C'.St ρ' dh' fr' σ' H' → Le ρ1 H1 ρ' H' → Out C.G ρ1 dh1 H1 ρ' dh' H' := fun {ρ' dh' fr' σ' H'} st' le' => by
    have z := out_of (C := C') (Hx := L2.upd H1 D (.lst [])) (by rw [hG]; exact ent0) hn0 (fun j hj x hx => hfn j hj x hx) st' le'
    rw [hG] at z; exact z
  -- the block's frame as at its start
  have frB : ∀ {ρ' : List Loc} {dh' : DH} {fr' : Fr} {σ' : L2.St} {H' : Hp}, C'.St ρ' dh' fr' σ' H' → Le ρ1 H1 ρ' H' → C'.St ρ' dh' (bDrop drop fr) (wipe σ (own.map (·.2))) H' := fun {ρ' dh' fr' σ' H'} st' le' => by
    have o := outB st' le'
    refine ⟨heap_any hfn st'.hr, ?_, hst.fl, hst.wl, st'.old⟩
    refine FrRel.later (ρ := ρ1) (H := H1) (dh := dh1) (by have := st1.hr.plain; exact this) le' ?_ fun c d hc q => out_cell ent0 o hc q
    have z := hst.sl
    refine FrRel.lw (H := L2.upd H1 D (.lst [])) ?_ z
    refine ⟨fun a xs h => ?_, fun f L cl c h => ?_, fun c q h => ?_, fun _ _ h => h, fun a o u h => ?_⟩
    · by_cases e : a = D
      · subst e; rw [upd_same] at h; cases h
      · rw [upd_ne e] at h; exact h
    · by_cases e : f = D
      · subst e; rw [upd_same] at h; cases h
      · rw [upd_ne e] at h; exact h
    · by_cases e : c = D
      · subst e; rw [upd_same] at h; cases h
      · rw [upd_ne e] at h; exact h
    · by_cases e : a = D
      · subst e; rw [upd_same] at h; cases h
      · rw [upd_ne e] at h; exact h
  refine ⟨_, _, _, hg, pts_nil, he, ?_⟩
  have hDn : Loc.ob D ∉ ρ1 := fun z => (st1.hr.plain D z).1.2 hD
  refine ⟨fun i m H' => ∃ ρ' dh' acc ws, C'.St ρ' dh' (bDrop drop fr) (wipe σ (own.map (·.2))) H' ∧ Le ρ1 H1 ρ' H' ∧ Loc.ob D ∉ ρ' ∧ H' D = some (.lst ws) ∧ RelDs C.G ρ' H' acc.reverse ws ∧ acc.length + m ≤ lcF ∧ lcLoop a g j (bDrop drop fr) (lcEnd k) m i dh' acc = true,
    ⟨lcF, ρ1, dh1, [], [], hst, le_upd hD, hDn, upd_same, rels_nil.mpr rfl, Nat.le_of_eq (Nat.zero_add _), h1⟩, fun i m H' ⟨ρ', dh', acc, ws, st', le', nD, eD, ra, hln, h'⟩ => ?_⟩
  cases m with
  | zero => cases h'
  | succ m =>
    obtain ⟨q1, q2⟩ := rj C' hG hK ρ' dh' (bDrop drop fr) (wipe σ (own.map (·.2))) H' i st' le'
    rcases turn_of (show turn (j.nxt i dh') (lcEnd k acc dh') (fun x => g x (bDrop drop fr) dh' fun fr2 h => a fr2 h noK fun d h => lcLoop a g j (bDrop drop fr) (lcEnd k) m (Nat.succ i) h (d :: acc)) = true from h') with ⟨e1, h2⟩ | ⟨d, e1, h2⟩
    · refine .inl ⟨q1 e1, ?_⟩
      have o : Out C.G ρ1 dh1 H1 ρ' dh' H' := outB st' le'
      have st2 : C.St ρ' dh' fr σ H' := st_out st1 o
      have h2 : k (.ref dh'.n) (dh'.new (.lst (revO acc []))) = true := h2
      rw [revO_eq, List.append_nil] at h2
      have st4 := st_adopt st2 eD nD ra
      exact ko (ρ' ++ [.ob D]) _ H' (.ref dh'.n) (.ref D) st4 (le1.trans (le_adopt le' hD)) (rel_ref.mpr ⟨D, rfl, by rw [st'.hr.len]; simp⟩) h2
    · obtain ⟨go, yl⟩ := q2 d e1
      refine .inr ⟨go, _, fun H2 w => ⟨m, Nat.lt_succ_self m, w⟩, fun v H2 hy => ?_⟩
      obtain ⟨st2, le2, r2⟩ := yl v H2 hy
      refine ⟨ρ', dh', bDrop drop fr, d, _, st2, r2, fun ρ3 dh3 fr3 σ3 H3 st5 le3 hsl h3 => ?_, h2⟩
      refine ⟨wipe_same hsl (by rw [st5.wl, hX]; show C.X.N.length = σ.length; exact st1.wl.symm), ?_⟩
      show (C'.E a) σ3 H3 _
      refine E_then st5 (fun _ _ _ _ _ _ _ _ _ _ z => by cases z) h3 fun ρ4 dh4 H4 d4 v4 st6 le4 r4 h4 => ?_
      have le34 : Le ρ' H2 ρ4 H4 := le3.trans le4
      have eD2 : H2 D = some (.lst ws) := le2.keep D _ eD nD (fun _ z => nomatch z)
      have nD4 : Loc.ob D ∉ ρ4 := fun z => by
        obtain ⟨mr, e, f⟩ := le34.pre
        rw [e] at z
        rcases List.mem_append.mp z with z | z
        · exact nD z
        · have := f D z
          rw [eD2] at this; cases this
      have eD4 : H4 D = some (.lst ws) := le34.keep D _ eD2 nD (fun _ z => nomatch z)
      have ra4 : RelDs C.G ρ4 H4 acc.reverse ws := by
        have z := RelDs.later st'.hr.plain (le2.trans le34) (hG.symm ▸ ra)
        rw [hG] at z; exact z
      refine ⟨ws, eD4, ?_, ρ4, dh4, d4 :: acc, ws ++ [v4], st_side (frB st6 ((le'.trans le2).trans le34)) eD4 nD4, le_side ((le'.trans le2).trans le34) hD eD4, nD4, upd_same, ?_, by rw [List.length_cons]; omega, h4⟩
      · rw [← rels_length ra4, List.length_reverse]
        have : lcF ≤ sizeLine := by decide
        omega
      · rw [List.reverse_cons]
        rw [hG] at r4
        exact RelDs.lw (lw_side eD4) (rels_app ra4 (rels_cons.mpr ⟨v4, [], rfl, r4, rels_nil.mpr rfl⟩))
theorem se_lc (hc : C.X.calm = true) (b : BlkS C scope own drop cs') (hi : PI C.X tg iter (C.I it)) (hs : ∀ x, foldedSetIterable iter C.X.env x = pure x) (hb : InBlk C scope own cs' elt tg a g fun _ => True) :
    PE C.X (.ListComp elt [⟨tg, iter, [], 0⟩] scope pos) (C.E (cLc drop a g it)) :=
  pe_imp (pe_lcg hc C.hN hi b.ok hs) (lc_imp hc b hb)
theorem lcC_imp (hc : C.X.calm = true) (b : BlkS C scope own drop cs') (hb : InBlk C scope own cs' elt tg a g fun C' => PTs C'.X ifs (C'.T c)) (σ : L2.St) (H : Hp) (Q : VK) (h0 : C.E (cLcC drop a g it c) σ H Q) : tLcG C.X (C.I it) scope own elt tg ifs σ H Q := by
  obtain ⟨ρ, dh, fr, kx, k, st, xo, ko, h⟩ := h0
  refine ⟨ρ, dh, fr, kx, _, st, xo, fun ρ1 dh1 H1 j J st1 le1 rj h1 => ?_, h⟩
  intro D hD pins s3 fp I hfp
  have st3 : C.St ρ1 dh1 fr σ (L2.upd H1 D (.lst [])) := st_upd st1 hD
  have hst := blk_start I b st3 hfp
  have hf := free_has I b
  generalize hC : blkC C ρ1 dh1 (L2.upd H1 D (.lst [])) σ s3 scope fp cs' I hf = C' at hst
  have hX : C'.X = C.X.blk s3 (L2.upd H1 D (.lst [])) scope (blkE C.X s3 scope) fp := by rw [← hC]; rfl
  have hG : C'.G = C.G := by rw [← hC]; rfl
  have hK : C'.X.K = C.X.K := by rw [hX]
  have hn0 : C'.n0 = ⟨ρ1.length, dh1⟩ := by rw [← hC]; rfl
  have hcs : C'.cs = cs' := by rw [← hC]; rfl
  have hk : C'.k = C.k := by rw [← hC]; rfl
  obtain ⟨hg, he, hcd⟩ := hb C' s3 (L2.upd H1 D (.lst [])) fp hG hk hcs hX
  rw [hX] at hg he hcd
  have hfn : ∀ j ∈ C'.cs, ∀ x, C'.X.N[j]? = some x → C'.X.fn x = false := fun j hj x hx => by
    rw [hcs] at hj
    rw [hX] at hx ⊢
    obtain ⟨_, y, q1, q2⟩ := b.vis j hj
    have hx : C.X.N[j]? = some x := hx
    rw [q1] at hx; cases hx
    show (scope.names.lookup x == some .cell) = false
    rw [b.ok.uniq (x, .free) q2]; rfl
  have ent0 := ent_of I st3
  -- out of the block's state: what has become of the data
  have outB : ∀ {ρ' : List Loc} {dh' : DH} {fr' : Fr} {σ' : L2.St} {H' : Hp}, C'.St ρ' dh' fr' σ' H' → Le ρ1 H1 ρ' H' → Out C.G ρ1 dh1 H1 ρ' dh' H' := fun {ρ' dh' fr' σ' H'} st' le' => by
    have z := out_of (C := C') (Hx := L2.upd H1 D (.lst [])) (by rw [hG]; exact ent0) hn0 (fun j hj x hx => hfn j hj x hx) st' le'
    rw [hG] at z; exact z
  -- the block's frame as at its start
  have frB : ∀ {ρ' : List Loc} {dh' : DH} {fr' : Fr} {σ' : L2.St} {H' : Hp}, C'.St ρ' dh' fr' σ' H' → Le ρ1 H1 ρ' H' → C'.St ρ' dh' (bDrop drop fr) (wipe σ (own.map (·.2))) H' := fun {ρ' dh' fr' σ' H'} st' le' => by
    have o := outB st' le'
    refine ⟨heap_any hfn st'.hr, ?_, hst.fl, hst.wl, st'.old⟩
    refine FrRel.later (ρ := ρ1) (H := H1) (dh := dh1) (by have := st1.hr.plain; exact this) le' ?_ fun c d hc q => out_cell ent0 o hc q
    have z := hst.sl
    refine FrRel.lw (H := L2.upd H1 D (.lst [])) ?_ z
    refine ⟨fun a xs h => ?_, fun f L cl c h => ?_, fun c q h => ?_, fun _ _ h => h, fun a o u h => ?_⟩
    · by_cases e : a = D
      · subst e; rw [upd_same] at h; cases h
      · rw [upd_ne e] at h; exact h
    · by_cases e : f = D
      · subst e; rw [upd_same] at h; cases h
      · rw [upd_ne e] at h; exact h
    · by_cases e : c = D
      · subst e; rw [upd_same] at h; cases h
      · rw [upd_ne e] at h; exact h
    · by_cases e : a = D
      · subst e; rw [upd_same] at h; cases h
      · rw [upd_ne e] at h; exact h
  refine ⟨_, _, _, hg, hcd, he, ?_⟩
  have hDn : Loc.ob D ∉ ρ1 := fun z => (st1.hr.plain D z).1.2 hD
  refine ⟨fun i m H' => ∃ ρ' dh' acc ws, C'.St ρ' dh' (bDrop drop fr) (wipe σ (own.map (·.2))) H' ∧ Le ρ1 H1 ρ' H' ∧ Loc.ob D ∉ ρ' ∧ H' D = some (.lst ws) ∧ RelDs C.G ρ' H' acc.reverse ws ∧ acc.length + m ≤ lcF ∧ lcLoopC a g j c (bDrop drop fr) (lcEnd k) m i dh' acc = true,
    ⟨lcF, ρ1, dh1, [], [], hst, le_upd hD, hDn, upd_same, rels_nil.mpr rfl, Nat.le_of_eq (Nat.zero_add _), h1⟩, fun i m H' ⟨ρ', dh', acc, ws, st', le', nD, eD, ra, hln, h'⟩ => ?_⟩
  cases m with
  | zero => cases h'
  | succ m =>
    obtain ⟨q1, q2⟩ := rj C' hG hK ρ' dh' (bDrop drop fr) (wipe σ (own.map (·.2))) H' i st' le'
    rcases turn_of (show turn (j.nxt i dh') (lcEnd k acc dh') (fun x => g x (bDrop drop fr) dh' fun fr2 h => c fr2 h noK fun b h => cnd b (a fr2 h noK fun d h => lcLoopC a g j c (bDrop drop fr) (lcEnd k) m (Nat.succ i) h (d :: acc)) (lcLoopC a g j c (bDrop drop fr) (lcEnd k) m (Nat.succ i) h acc)) = true from h') with ⟨e1, h2⟩ | ⟨d, e1, h2⟩
    · refine .inl ⟨q1 e1, ?_⟩
      have o : Out C.G ρ1 dh1 H1 ρ' dh' H' := outB st' le'
      have st2 : C.St ρ' dh' fr σ H' := st_out st1 o
      have h2 : k (.ref dh'.n) (dh'.new (.lst (revO acc []))) = true := h2
      rw [revO_eq, List.append_nil] at h2
      have st4 := st_adopt st2 eD nD ra
      exact ko (ρ' ++ [.ob D]) _ H' (.ref dh'.n) (.ref D) st4 (le1.trans (le_adopt le' hD)) (rel_ref.mpr ⟨D, rfl, by rw [st'.hr.len]; simp⟩) h2
    · obtain ⟨go, yl⟩ := q2 d e1
      refine .inr ⟨go, _, fun H2 w => ⟨m, Nat.lt_succ_self m, w⟩, fun v H2 hy => ?_⟩
      obtain ⟨st2, le2, r2⟩ := yl v H2 hy
      refine ⟨ρ', dh', bDrop drop fr, d, _, st2, r2, fun ρ3 dh3 fr3 σ3 H3 st5 le3 hsl h3 => ?_, h2⟩
      refine ⟨wipe_same hsl (by rw [st5.wl, hX]; show C.X.N.length = σ.length; exact st1.wl.symm), ?_⟩
      show (C'.T c) σ3 H3 _
      refine T_then st5 (fun _ _ _ _ _ _ _ _ _ _ z => by cases z) h3 fun ρ5 dh5 H5 b5 st7 le7 h7 => ?_
      have eD2 : H2 D = some (.lst ws) := le2.keep D _ eD nD (fun _ z => nomatch z)
      have stay : ∀ {ρ4 : List Loc} {H4 : Hp}, Le ρ' H2 ρ4 H4 → Loc.ob D ∉ ρ4 ∧ H4 D = some (.lst ws) ∧ RelDs C.G ρ4 H4 acc.reverse ws := fun {ρ4 H4} le34 => by
        refine ⟨fun z => ?_, le34.keep D _ eD2 nD (fun _ z => nomatch z), ?_⟩
        · obtain ⟨mr, e, f⟩ := le34.pre
          rw [e] at z
          rcases List.mem_append.mp z with z | z
          · exact nD z
          · have := f D z
            rw [eD2] at this; cases this
        · have z := RelDs.later st'.hr.plain (le2.trans le34) (hG.symm ▸ ra)
          rw [hG] at z; exact z
      cases b5 with
      | false =>
        have le34 : Le ρ' H2 ρ5 H5 := le3.trans le7
        obtain ⟨nD4, eD4, ra4⟩ := stay le34
        exact ⟨ρ5, dh5, acc, ws, frB st7 ((le'.trans le2).trans le34), (le'.trans le2).trans le34, nD4, eD4, ra4, by omega, h7⟩
      | true =>
        show (C'.E a) σ3 H5 _
        refine E_then st7 (fun _ _ _ _ _ _ _ _ _ _ z => by cases z) h7 fun ρ4 dh4 H4 d4 v4 st6 le4 r4 h4 => ?_
        have le34 : Le ρ' H2 ρ4 H4 := (le3.trans le7).trans le4
        obtain ⟨nD4, eD4, ra4⟩ := stay le34
        refine ⟨ws, eD4, ?_, ρ4, dh4, d4 :: acc, ws ++ [v4], st_side (frB st6 ((le'.trans le2).trans le34)) eD4 nD4, le_side ((le'.trans le2).trans le34) hD eD4, nD4, upd_same, ?_, by rw [List.length_cons]; omega, h4⟩
        · rw [← rels_length ra4, List.length_reverse]
          have : lcF ≤ sizeLine := by decide
          omega
        · rw [List.reverse_cons]
          rw [hG] at r4
          exact RelDs.lw (lw_side eD4) (rels_app ra4 (rels_cons.mpr ⟨v4, [], rfl, r4, rels_nil.mpr rfl⟩))
theorem se_lcC (hc : C.X.calm = true) (b : BlkS C scope own drop cs') (hi : PI C.X tg iter (C.I it)) (hs : ∀ x, foldedSetIterable iter C.X.env x = pure x) (hb : InBlk C scope own cs' elt tg a g fun C' => PTs C'.X ifs (C'.T c)) :
    PE C.X (.ListComp elt [⟨tg, iter, ifs, 0⟩] scope pos) (C.E (cLcC drop a g it c)) :=
  pe_imp (pe_lcg hc C.hN hi b.ok hs) (lcC_imp hc b hb)
end
end Dz

set_option Elab.async false
set_option linter.all false
set_option maxRecDepth 100000
set_option maxHeartbeats 2000000
/-! Dz: dicts read. -/
namespace Dz
open PySem L2
/-! ### keys -/
theorem flatK_of {x : DV} (h : flatK x = true) : ∃ k : Key, x = keyD k := by
  cases x with
  | int i => exact ⟨.inl i, rfl⟩
  | str s => exact ⟨.inr ⟨s.toArray⟩, by simp [keyD]⟩
  | _ => cases h
theorem flatKs_of : ∀ {xs : List DV}, allL flatK xs = true → ∃ ks : List Key, xs = ks.map keyD
  | [], _ => ⟨[], rfl⟩
  | x :: xs, h => by
    obtain ⟨h1, h2⟩ := cnd_and (show cnd (flatK x) (allL flatK xs) false = true from h)
    obtain ⟨k, rfl⟩ := flatK_of h1
    obtain ⟨ks, rfl⟩ := flatKs_of h2
    exact ⟨k :: ks, rfl⟩
theorem tupK_of {x : DV} (h : tupK x = true) : ∃ ks : List Key, x = .tup (ks.map keyD) := by
  obtain ⟨xs, rfl, h⟩ := onT_of h
  obtain ⟨ks, rfl⟩ := flatKs_of h
  exact ⟨ks, rfl⟩
theorem rel_key {G : Gv} {ρ : List Loc} {H : Hp} {k : Key} {v : V} (r : RelD G ρ H (keyD k) v) : v = kV k := by
  cases k with
  | inl i => exact rel_int.mp r
  | inr x =>
    have := rel_str.mp r
    rw [this]
    show V.str _ = V.str x
    simp
theorem rel_keys {G : Gv} {ρ : List Loc} {H : Hp} : ∀ {ks : List Key} {vs : List V}, RelDs G ρ H (ks.map keyD) vs → vs = ks.map kV
  | [], vs, r => rels_nil.mp r
  | k :: ks, vs, r => by
    obtain ⟨v, us, rfl, r1, r2⟩ := rels_cons.mp r
    rw [rel_key r1, rel_keys r2]; rfl
theorem key_rel {G : Gv} {ρ : List Loc} {H : Hp} (k : Key) : RelD G ρ H (keyD k) (kV k) := by
  cases k with
  | inl i => exact rel_int.mpr rfl
  | inr x =>
    refine rel_str.mpr ?_
    show V.str x = V.str _
    simp
theorem keys_rel {G : Gv} {ρ : List Loc} {H : Hp} : ∀ ks : List Key, RelDs G ρ H (ks.map keyD) (ks.map kV)
  | [] => rels_nil.mpr rfl
  | k :: ks => rels_cons.mpr ⟨kV k, ks.map kV, rfl, key_rel k, keys_rel ks⟩
theorem flatEq_key (a b : Key) : flatEq (keyD a) (keyD b) = decide (a = b) := by
  cases a with
  | inl i =>
    cases b with
    | inl j =>
      show intEq i j = _
      rw [intEq_iff, Bool.eq_iff_iff, decide_eq_true_iff, decide_eq_true_iff]
      constructor
      · intro h; rw [h]
      · intro h; exact Sum.inl.inj h
    | inr y => show false = _; rw [eq_comm, decide_eq_false_iff_not]; intro h; cases h
  | inr x =>
    cases b with
    | inl j => show false = _; rw [eq_comm, decide_eq_false_iff_not]; intro h; cases h
    | inr y =>
      show natsEq x.cps.toList y.cps.toList = _
      rw [natsEq_iff, Bool.eq_iff_iff, decide_eq_true_iff, decide_eq_true_iff]
      constructor
      · intro h; rw [PySem.W.str_of_cps h]
      · intro h; rw [Sum.inr.inj h]
theorem flatsEq_key : ∀ a b : List Key, flatsEq (a.map keyD) (b.map keyD) = decide (a = b)
  | [], [] => rfl
  | [], _ :: _ => rfl
  | _ :: _, [] => rfl
  | x :: xs, y :: ys => by
    show cnd (flatEq (keyD x) (keyD y)) (flatsEq (xs.map keyD) (ys.map keyD)) false = _
    rw [flatEq_key, flatsEq_key xs ys, Bool.eq_iff_iff, decide_eq_true_iff]
    by_cases e : x = y
    · rw [decide_eq_true e, cnd_true, decide_eq_true_iff]; simp [e]
    · rw [decide_eq_false e, cnd_false]; simp [e]
theorem keyEq_flat (a b : Key) : keyEq (keyD a) (keyD b) = decide (a = b) := by
  rw [← flatEq_key]
  cases a <;> rfl
theorem keyEq_tup (a b : List Key) : keyEq (.tup (a.map keyD)) (.tup (b.map keyD)) = decide (a = b) := flatsEq_key a b
/-! ### looking -/
section
variable {G : Gv} {ρ : List Loc} {H : Hp}
theorem find_rel {κ : Type} [DecidableEq κ] (f : κ → DV) (k : κ) (hf : ∀ a, keyEq (f a) (f k) = decide (a = k)) : ∀ {kvs : List DP} {ks : List (κ × V)}, kvs.map (·.1) = ks.map (fun p => f p.1) → RelDs G ρ H (kvs.map (·.2)) (ks.map (·.2)) →
    (findV (f k) kvs = none → valV ks k = none) ∧ ∀ d, findV (f k) kvs = some d → ∃ v, valV ks k = some v ∧ RelD G ρ H d v
  | [], [], _, _ => ⟨fun _ => rfl, fun d e => (by cases e)⟩
  | [], _ :: _, h, _ => by simp at h
  | _ :: _, [], h, _ => by simp at h
  | (a, d0) :: kvs, (b, v0) :: ks, h, r => by
    rw [List.map_cons, List.map_cons] at h r
    injection h with h1 h2
    obtain ⟨v, us, e, r1, r2⟩ := rels_cons.mp r
    injection e with e1 e2
    subst e1 e2
    have h1 : a = f b := h1
    subst h1
    have ih := find_rel f k hf h2 r2
    have e : findV (f k) ((f b, d0) :: kvs) = cnd (keyEq (f b) (f k)) (some d0) (findV (f k) kvs) := rfl
    rw [e, hf b]
    by_cases z : b = k
    · rw [decide_eq_true z, cnd_true, valV_pos (p := (b, v0)) z]
      exact ⟨fun e => (by cases e), fun d e => (by cases e; exact ⟨v0, rfl, r1⟩)⟩
    · rw [decide_eq_false z, cnd_false, valV_neg (p := (b, v0)) z]
      exact ih
/-- what a lookup tells, in the model's words -/
theorem look_rel {a : Addr} {kvs : List DP} {x : DV} {y : V} {o : Option DV} (h : DicAt G ρ H a kvs) (rx : RelD G ρ H x y) (e : look x kvs = some o) : ∃ w : Option V, DGet H a y w ∧ (o = none → w = none) ∧ ∀ d, o = some d → ∃ v, w = some v ∧ RelD G ρ H d v := by
  have e : cnd (keyFit x kvs) (some (findV x kvs)) none = some o := e
  cases hf : keyFit x kvs with
  | false => rw [hf] at e; cases e
  | true =>
    rw [hf] at e; cases e
    rcases h with ⟨ks, h0, h1, h2, h3⟩ | ⟨ks, h1, h2, h3⟩
    · cases kvs with
      | nil => cases ks with
        | nil => exact absurd rfl h0
        | cons _ _ => simp at h2
      | cons p r =>
        cases ks with
        | nil => simp at h2
        | cons q s =>
          have hp : p.1 = keyD q.1 := by
            rw [List.map_cons, List.map_cons] at h2
            injection h2
          have hf : cnd (isTup p.1) (tupK x) (flatK x) = true := hf
          have hn : isTup (keyD q.1) = false := by cases q.1 <;> rfl
          rw [hp, hn] at hf
          obtain ⟨k, rfl⟩ := flatK_of hf
          have := rel_key rx
          subst this
          obtain ⟨g1, g2⟩ := find_rel keyD k (fun a => keyEq_flat a k) h2 h3
          exact ⟨_, DGet.k h1, g1, g2⟩
    · have hk : ∃ k : List Key, x = .tup (k.map keyD) := by
        cases kvs with
        | nil => exact tupK_of hf
        | cons p r =>
          cases ks with
          | nil => simp at h2
          | cons q s =>
            have hp : p.1 = .tup (q.1.map keyD) := by
              rw [List.map_cons, List.map_cons] at h2
              injection h2
            have hf : cnd (isTup p.1) (tupK x) (flatK x) = true := hf
            rw [hp] at hf
            exact tupK_of hf
      obtain ⟨k, rfl⟩ := hk
      obtain ⟨b, vs, rfl, hb, rv⟩ := rel_tup.mp rx
      have := rel_keys rv
      subst this
      obtain ⟨g1, g2⟩ := find_rel (fun l : List Key => DV.tup (l.map keyD)) k (fun a => keyEq_tup a k) h2 h3
      exact ⟨_, DGet.t h1 hb, g1, g2⟩
end
end Dz

set_option Elab.async false
set_option linter.all false
set_option maxRecDepth 100000
set_option maxHeartbeats 2000000
/-! Dz: in, not in; a[i]. -/
namespace Dz
open PySem L2
def rDIn : R2 := fun x y H Q => ∃ a o, y = V.ref a ∧ DGet H a x o ∧ Q (.bl o.isSome) H
def rDNotIn : R2 := fun x y H Q => ∃ a o, y = V.ref a ∧ DGet H a x o ∧ Q (.bl (!o.isSome)) H
theorem op_dIn {X : Cx} (hu : X.A.units + 1 < cLine) : OpR X (compareOp .In) rDIn := by
  intro pins s σ H x y v u Q I rx ry h
  obtain ⟨a, o, rfl, g, q⟩ := h
  cases ry
  exact d_in hu I g rx fun s' I' => ⟨.bl _, H, I', rfl, q⟩
theorem op_dNotIn {X : Cx} (hu : X.A.units + 1 < cLine) : OpR X (compareOp .NotIn) rDNotIn := by
  intro pins s σ H x y v u Q I rx ry h
  obtain ⟨a, o, rfl, g, q⟩ := h
  cases ry
  exact d_notIn hu I g rx fun s' I' => ⟨.bl _, H, I', rfl, q⟩
theorem py_shaped' {h : DH} {x : DV} {n : Nat} (hn : n ≤ 64) (e : isData h n x = true) : SeqAt.shaped (pyOf h n x) = true := by
  unfold SeqAt.shaped
  rw [py_lay n x e, Bool.true_and, decide_eq_true_iff]
  exact Nat.le_trans (py_depth n x) hn
theorem mem_of {h : DH} {n : Nat} {x : DV} (dx : isData h n x = true) : ∀ {xs : List DV}, (∀ a ∈ xs, isData h n a = true) → memD (eqD h n) x xs = ofB ((xs.map (pyOf h n)).any fun z => PyData.eqv z (pyOf h n x))
  | [], _ => rfl
  | a :: xs, e => by
    show on3 (eqD h n a x) (memD (eqD h n) x xs) .yes .un = _
    rw [eq_of n a x (e a (.head _)) dx, mem_of dx fun z hz => e z (.tail _ hz), List.map_cons, List.any_cons]
    cases PyData.eqv (pyOf h n a) (pyOf h n x) <;> rfl
theorem obLT {o : Option DObj} {f : List DV → T3} {g : T3} {b : Bool} (h : obL (obD .un o fun kvs => g) o f = ofB b) : (∃ xs, o = some (.lst xs) ∧ f xs = ofB b) ∨ ∃ kvs, o = some (.dic kvs) ∧ g = ofB b := by
  cases o with
  | none => cases b <;> cases h
  | some o =>
    cases o with
    | lst xs => exact .inl ⟨xs, rfl, h⟩
    | dic kvs => exact .inr ⟨kvs, rfl, h⟩
    | _ => cases b <;> cases h
theorem has_of {x y : DV} {h : DH} {b : Bool} (e : hasD x y h = ofB b) : (∃ i xs, y = .ref i ∧ h.get i = some (.lst xs) ∧ isData h 39 x = true ∧ isData h eqF y = true ∧ memD (eqD h 39) x xs = ofB b) ∨
    ∃ i kvs o, y = .ref i ∧ h.get i = some (.dic kvs) ∧ look x kvs = some o ∧ o.isSome = b := by
  cases y with
  | ref i =>
    have e : obL (obD .un (h.get i) fun kvs => onO .un (look x kvs) fun o => onO .no o fun _ => .yes) (h.get i) (fun xs => hasL x (.ref i) xs h) = ofB b := e
    cases q : h.get i with
    | none => rw [q] at e; cases b <;> cases e
    | some o =>
      rw [q] at e
      cases o with
      | lst xs =>
        obtain ⟨d1, e⟩ := cnd_un (show cnd (isData h 39 x) (cnd (isData h eqF (.ref i)) (memD (eqD h 39) x xs) .un) .un = ofB b from e)
        obtain ⟨d2, e⟩ := cnd_un e
        exact .inl ⟨i, xs, rfl, q, d1, d2, e⟩
      | dic kvs =>
        have e : onO .un (look x kvs) (fun o => onO .no o fun _ => .yes) = ofB b := e
        cases q2 : look x kvs with
        | none => rw [q2] at e; cases b <;> cases e
        | some o =>
          rw [q2] at e
          refine .inr ⟨i, kvs, o, rfl, q, q2, ?_⟩
          cases o with
          | none => cases b <;> first | rfl | cases e
          | some _ => cases b <;> first | rfl | cases e
      | _ => cases b <;> cases e
  | _ => cases b <;> cases e
theorem look_some {G : Gv} {ρ : List Loc} {H : Hp} {o : Option DV} {w : Option V} (h1 : o = none → w = none) (h2 : ∀ d, o = some d → ∃ v, w = some v ∧ RelD G ρ H d v) : w.isSome = o.isSome := by
  cases o with
  | none => rw [h1 rfl]; rfl
  | some d =>
    obtain ⟨v, rfl, _⟩ := h2 d rfl
    rfl
theorem ok_in {n : Nat} {X : Cx} (hu : X.A.units + 200 < cLine) : CmpOk n X (compareOp .In) false hasD := by
  refine ⟨_, (op_inD (by omega)).or (op_dIn (by omega)), fun C ρ dh fr σ H x y v w Q b hX st rx ry e q => ?_⟩
  subst hX
  rcases has_of e with ⟨i, xs, rfl, h1, d1, d2, h2⟩ | ⟨i, kvs, o, rfl, h1, h2, h3⟩
  · obtain ⟨ys, g1, g2, g3⟩ := data_ref (n := 39) d2
    rw [h1] at g1; cases g1
    rw [mem_of d1 g2] at h2
    have hd := dp_of st eqF _ w d2 ry
    have hs := py_shaped d2
    rw [show pyOf dh eqF (.ref i) = .list (xs.map (pyOf dh 39)) from g3] at hd hs
    refine .inl ⟨_, _, dp_of st 39 x v d1 rx, hd, py_shaped' (by decide) d1, hs, ?_⟩
    rw [ofB_inj h2]; exact q
  · obtain ⟨a, rfl, _, hd⟩ := st_dic st ry h1
    obtain ⟨w', g, k1, k2⟩ := look_rel hd rx h2
    refine .inr ⟨a, w', rfl, g, ?_⟩
    rw [look_some k1 k2, h3]; exact q
theorem ok_notin {n : Nat} {X : Cx} (hu : X.A.units + 200 < cLine) : CmpOk n X (compareOp .NotIn) true hasD := by
  refine ⟨_, (op_notInD (by omega)).or (op_dNotIn (by omega)), fun C ρ dh fr σ H x y v w Q b hX st rx ry e q => ?_⟩
  subst hX
  rcases has_of e with ⟨i, xs, rfl, h1, d1, d2, h2⟩ | ⟨i, kvs, o, rfl, h1, h2, h3⟩
  · obtain ⟨ys, g1, g2, g3⟩ := data_ref (n := 39) d2
    rw [h1] at g1; cases g1
    rw [mem_of d1 g2] at h2
    have hd := dp_of st eqF _ w d2 ry
    have hs := py_shaped d2
    rw [show pyOf dh eqF (.ref i) = .list (xs.map (pyOf dh 39)) from g3] at hd hs
    refine .inl ⟨_, _, dp_of st 39 x v d1 rx, hd, py_shaped' (by decide) d1, hs, ?_⟩
    rw [ofB_inj h2]; exact q
  · obtain ⟨a, rfl, _, hd⟩ := st_dic st ry h1
    obtain ⟨w', g, k1, k2⟩ := look_rel hd rx h2
    refine .inr ⟨a, w', rfl, g, ?_⟩
    rw [look_some k1 k2, h3]; exact q
/-! ### a[i] -/
def rIxDt : R2 := fun x y H Q => ∃ a v, x = V.ref a ∧ DGet H a y (some v) ∧ Q v H
theorem ix_dict {X : Cx} (hu : X.A.units + 1 < cLine) : IxR X rIxDt := by
  intro value slice pins s σ H x y v u Q I rx ry h hs
  obtain ⟨a, w, rfl, g, q⟩ := h
  cases rx
  exact PyProof.Rows.tail_any (dict_typeIs I g) PySem.F.slot_dict_getitem.lookup (d_getItem hu I g ry fun w' s' I' rv => ⟨w, H, I', rv, q⟩) hs
section
variable {C : Sc} {e e2 : Expr} {a b : Ex} {pos : Pos}
theorem se_ix (ha : PE C.X e (C.E a)) (hb : PE C.X e2 (C.E b)) (hs : PlainIx e2) : PE C.X (.Subscript e e2 pos) (C.E (cIx a b)) := by
  refine pe_imp (pe_ix ((ix_list.or ix_tup).or (ix_dict (by have := C.hu; omega))) ha hb hs) fun σ H Q ⟨ρ, dh, fr, kx, k, st, xo, ko, h⟩ => ?_
  refine E_then st xo h fun ρ1 dh1 H1 d v st1 le1 r1 h3 => ?_
  refine E_then st1 (xo.later le1) h3 fun ρ2 dh2 H2 d2 v2 st2 le2 r2 h4 => ?_
  have r1 := RelD.later st1.hr.plain le2 r1
  have ko2 := ko.later (le1.trans le2)
  obtain ⟨d3, e3, h5⟩ := ko_some h4
  cases d with
  | tup xs =>
    have e3 : onI none d2 (fun k => ixIn xs k) = some d3 := e3
    cases d2 with
    | int i =>
      have e3 : ixIn xs i = some d3 := e3
      rw [ixIn_eq] at e3
      obtain ⟨p, vs, rfl, s, r⟩ := rel_tup.mp r1
      rw [rel_int] at r2; subst r2
      obtain ⟨w, e4, r4⟩ := rels_at r e3
      exact .inl (.inr ⟨p, vs, i, w, rfl, rfl, C.sq s, e4, ko2.now st2 r4 h5⟩)
    | _ => cases e3
  | ref j =>
    have e3 : obL (obD none (dh2.get j) fun kvs => onO none (look d2 kvs) fun o => o) (dh2.get j) (fun xs => onI none d2 fun k => ixIn xs k) = some d3 := e3
    cases q : dh2.get j with
    | none => rw [q] at e3; cases e3
    | some o =>
      rw [q] at e3
      cases o with
      | lst xs =>
        have e3 : onI none d2 (fun k => ixIn xs k) = some d3 := e3
        cases d2 with
        | int i =>
          have e3 : ixIn xs i = some d3 := e3
          rw [ixIn_eq] at e3
          obtain ⟨p, vs, rfl, _, s, r⟩ := st_lst st2 r1 q
          rw [rel_int] at r2; subst r2
          obtain ⟨w, e4, r4⟩ := rels_at r e3
          exact .inl (.inl ⟨p, vs, i, w, rfl, rfl, .inl (.inl s), e4, ko2.now st2 r4 h5⟩)
        | _ => cases e3
      | dic kvs =>
        have e3 : onO none (look d2 kvs) (fun o => o) = some d3 := e3
        cases q2 : look d2 kvs with
        | none => rw [q2] at e3; cases e3
        | some o =>
          rw [q2] at e3
          have e3 : o = some d3 := e3
          obtain ⟨p, rfl, _, hd⟩ := st_dic st2 r1 q
          obtain ⟨w, g, k1, k2⟩ := look_rel hd r2 q2
          obtain ⟨u, rfl, r4⟩ := k2 d3 e3
          exact .inr ⟨p, u, rfl, g, ko2.now st2 r4 h5⟩
      | _ => cases e3
  | _ => cases e3
end
end Dz

set_option Elab.async false
set_option linter.all false
set_option maxRecDepth 100000
set_option maxHeartbeats 2000000
/-! Dz: isinstance of built-in types. -/
namespace Dz
open PySem L2
def tyName : Ty → String
  | .int => "int" | .bool => "bool" | .str => "str" | .list => "list" | .tuple => "tuple" | .dict => "dict" | .none => "NoneType" | .own _ => "" | .bexc _ => ""
def plainTys : List Ty := [.int, .bool, .str, .list, .tuple, .dict, .none]
/-- the type of a datum -/
theorem ty_of {C : Sc} {ρ : List Loc} {dh : DH} {fr : Fr} {σ : L2.St} {H : Hp} {x : DV} {v : V} {t : Ty} (st : C.St ρ dh fr σ H) (r : RelD C.G ρ H x v) (e : tyOf x dh = some t) : t ∈ plainTys ∧ TyX C.X.K H v (.type (tyName t)) := by
  cases x with
  | non => cases e; rw [rel_non] at r; subst r; exact ⟨by simp [plainTys], .base .non⟩
  | bl b => cases e; rw [rel_bl] at r; subst r; exact ⟨by simp [plainTys], .base (.bl b)⟩
  | int i => cases e; rw [rel_int] at r; subst r; exact ⟨by simp [plainTys], .base (.int i)⟩
  | str s => cases e; rw [rel_str] at r; subst r; exact ⟨by simp [plainTys], .base (.str _)⟩
  | tup xs =>
    cases e
    obtain ⟨a, vs, rfl, s, _⟩ := rel_tup.mp r
    exact ⟨by simp [plainTys], .base (.tup s)⟩
  | ref i =>
    have e : obL (obD none (dh.get i) fun _ => some Ty.dict) (dh.get i) (fun _ => some .list) = some t := e
    cases q : dh.get i with
    | none => rw [q] at e; cases e
    | some o =>
      rw [q] at e
      cases o with
      | lst xs =>
        cases e
        obtain ⟨a, vs, rfl, _, s, _⟩ := st_lst st r q
        exact ⟨by simp [plainTys], .base (.lst s)⟩
      | dic kvs =>
        cases e
        obtain ⟨a, rfl, _, s⟩ := st_dic st r q
        rcases s with ⟨ks, _, s, _⟩ | ⟨ks, s, _⟩
        · exact ⟨by simp [plainTys], .base (.dK s)⟩
        · exact ⟨by simp [plainTys], .base (.dT s)⟩
      | _ => cases e
  | fn _ _ => cases e
  | exn _ _ => exact absurd r rel_exn
  | cl _ => cases e
section
variable {C : Sc} {e ce : Expr} {es : List Expr} {a : Ex} {n : String} {sub : Ty → Bool} {p pos : Pos} {v1 : V} {us : List Value} {vs : List V}
/-- isinstance(e, T) -/
theorem se_isin (hg : Gl C.X "isinstance") (hm : C.X.mg "isinstance" = none) (hv : bootBuiltins "isinstance" = some (.builtin "isinstance")) (he : PE C.X e (C.E a)) (hc : PE C.X ce (tC (.ty n)))
    (hs : ∀ t ∈ plainTys, kitB (tyName t) n = some (sub t))
    (h1 : starEach (e :: [ce]) C.X.env = (false, eval e C.X.env) :: starEach [ce] C.X.env) (h2 : starEach (ce :: []) C.X.env = (false, eval ce C.X.env) :: starEach [] C.X.env) (hpl : (backTo pos (starEach [ce] C.X.env)).any (·.1) = false) :
    PE C.X (.Call (.Name "isinstance" p) [e, ce] [] pos) (C.E (cIsin sub a)) := by
  refine pe_imp (pe_callB call_isi hg hm hv (pa_cons he (pa_cons hc pa_nil h2) h1) (by decide) (by decide) h1 hpl) fun σ H Q ⟨ρ, dh, fr, kx, k, st, xo, ko, h⟩ => ?_
  refine E_then st xo h fun ρ1 dh1 H1 d v st1 le1 r1 h3 => ?_
  obtain ⟨t, e1, h3⟩ := onO_some h3
  obtain ⟨m, ty⟩ := ty_of st1 r1 e1
  exact ⟨v, .ty n, _, .type n, sub t, rfl, .ty n, ty, kit_ty (hs t m), (ko.later le1).now st1 (rel_bl.mpr rfl) h3⟩
/-- the names of built-in types, as a tuple's items -/
inductive TyEs (X : Cx) : List Expr → List String → Prop
  | nil : TyEs X [] []
  | cons {e : Expr} {es : List Expr} {n : String} {ns : List String} (h : PE X e (tC (.ty n))) (hs : starEach (e :: es) X.env = (false, eval e X.env) :: starEach es X.env) (t : TyEs X es ns) : TyEs X (e :: es) (n :: ns)
def tTys (ns : List String) : TA := fun _ H Q => Q (ns.map V.ty) H
theorem TyEs.pa {X : Cx} : ∀ {es : List Expr} {ns : List String}, TyEs X es ns → PA X es (tTys ns)
  | _, _, .nil => pa_nil
  | _, _, .cons h hs t => pa_imp (pa_cons h (TyEs.pa t) hs) fun σ H Q q => q
/-- isinstance(e, (T, ..)) -/
theorem se_isinT {ns : List String} {j : Nat} {tp : Pos} (hg : Gl C.X "isinstance") (hm : C.X.mg "isinstance" = none) (hv : bootBuiltins "isinstance" = some (.builtin "isinstance")) (he : PE C.X e (C.E a)) (hc : TyEs C.X es ns) (hn : ns.length ≤ 100)
    (hs : ∀ t ∈ plainTys, ∃ f : String → Bool, (∀ m ∈ ns, kitB (tyName t) m = some (f m)) ∧ ns.any f = sub t)
    (h1 : starEach (e :: [.Tuple es j tp]) C.X.env = (false, eval e C.X.env) :: starEach [.Tuple es j tp] C.X.env) (h2 : starEach (.Tuple es j tp :: []) C.X.env = (false, eval (.Tuple es j tp) C.X.env) :: starEach [] C.X.env) (hpl : (backTo pos (starEach [.Tuple es j tp] C.X.env)).any (·.1) = false) :
    PE C.X (.Call (.Name "isinstance" p) [e, .Tuple es j tp] [] pos) (C.E (cIsin sub a)) := by
  have kit : ∀ (t : String) (f : String → Bool) (ms : List String), (∀ m ∈ ms, kitB t m = some (f m)) → PySem.W.kitAny C.X.K (.type t) (ms.map Value.type) = some (ms.any f) := fun t f ms => by
    induction ms with
    | nil => intro _; exact kitAny_nil
    | cons m ms ih =>
      intro h
      rw [List.map_cons, List.any_cons]
      refine kitAny_cons (kit_ty (h m (.head _))) (fun e => ?_) fun e => by rw [e]; rfl
      rw [e, Bool.false_or]
      exact ih fun x hx => h x (.tail _ hx)
  refine pe_imp (pe_callB call_isiT hg hm hv (pa_cons he (pa_cons (pe_tup hc.pa) pa_nil h2) h1) (by decide) (by decide) h1 hpl) fun σ H Q ⟨ρ, dh, fr, kx, k, st, xo, ko, h⟩ => ?_
  refine E_then st xo h fun ρ1 dh1 H1 d v st1 le1 r1 h3 => ?_
  refine ⟨by rw [List.length_map]; have : sizeLine = 16777216 := sizeLine_eq; omega, fun q hq => ?_⟩
  obtain ⟨t, e1, h3⟩ := onO_some h3
  have le2 : Le ρ1 H1 ρ1 (L2.upd H1 q (.tup (ns.map V.ty))) := le_upd hq
  have st2 := st_upd (o := .tup (ns.map V.ty)) st1 hq
  obtain ⟨m, ty⟩ := ty_of st2 (RelD.later st1.hr.plain le2 r1) e1
  obtain ⟨f, f1, f2⟩ := hs t m
  refine ⟨v, q, ns.map V.ty, _, ns.map Value.type, sub t, rfl, upd_same, ?_, ty, by rw [← f2]; exact kit _ f ns f1, ((ko.later le1).later le2).now st2 (rel_bl.mpr rfl) h3⟩
  clear hc hs kit hn f1 f2 ty h st2 le2
  induction ns with
  | nil => exact .nil
  | cons n ns ih => exact .cons (.ty n) ih
end
end Dz

set_option Elab.async false
set_option linter.all false
set_option maxRecDepth 100000
set_option maxHeartbeats 2000000
/-! Dz: a[i] = v. -/
namespace Dz
open PySem L2
section
variable {G : Gv} {ρ : List Loc} {H : Hp}
theorem anyL_eq {α : Type} (p : α → Bool) : ∀ xs : List α, anyL p xs = xs.any p
  | [] => rfl
  | a :: r => by
    show cnd (p a) true (anyL p r) = _
    rw [anyL_eq p r, List.any_cons]
    cases p a <;> rfl
/-- keys side by side -/
theorem has_rel {κ : Type} [DecidableEq κ] (f : κ → DV) (k : κ) (hf : ∀ a, keyEq (f a) (f k) = decide (a = k)) : ∀ {kvs : List DP} {ks : List (κ × V)}, kvs.map (·.1) = ks.map (fun p => f p.1) → hasV (f k) kvs = ks.any fun p => decide (p.1 = k)
  | [], [], _ => rfl
  | [], _ :: _, h => by simp at h
  | _ :: _, [], h => by simp at h
  | (a, d0) :: kvs, (b, v0) :: ks, h => by
    rw [List.map_cons, List.map_cons] at h
    injection h with h1 h2
    have h1 : a = f b := h1
    subst h1
    show cnd (keyEq (f b) (f k)) true (hasV (f k) kvs) = _
    rw [hf b, has_rel f k hf h2, List.any_cons]
    cases decide (b = k) <;> rfl
theorem repl_rel {κ : Type} [DecidableEq κ] (f : κ → DV) (k : κ) (d : DV) (v : V) (hf : ∀ a, keyEq (f a) (f k) = decide (a = k)) (rd : RelD G ρ H d v) : ∀ {kvs : List DP} {ks : List (κ × V)}, kvs.map (·.1) = ks.map (fun p => f p.1) → RelDs G ρ H (kvs.map (·.2)) (ks.map (·.2)) →
    (mapL (fun a => cnd (keyEq a.1 (f k)) (a.1, d) a) kvs).map (·.1) = (ks.map fun p => if p.1 = k then (p.1, v) else p).map (fun p => f p.1) ∧ RelDs G ρ H ((mapL (fun a => cnd (keyEq a.1 (f k)) (a.1, d) a) kvs).map (·.2)) ((ks.map fun p => if p.1 = k then (p.1, v) else p).map (·.2))
  | [], [], _, _ => ⟨rfl, rels_nil.mpr rfl⟩
  | [], _ :: _, h, _ => by simp at h
  | _ :: _, [], h, _ => by simp at h
  | (a, d0) :: kvs, (b, v0) :: ks, h, r => by
    rw [List.map_cons, List.map_cons] at h r
    injection h with h1 h2
    have h1 : a = f b := h1
    subst h1
    obtain ⟨u, us, e, r1, r2⟩ := rels_cons.mp r
    injection e with e1 e2
    subst e1 e2
    obtain ⟨g1, g2⟩ := repl_rel f k d v hf rd h2 r2
    have e : mapL (fun a => cnd (keyEq a.1 (f k)) (a.1, d) a) ((f b, d0) :: kvs) = cnd (keyEq (f b) (f k)) (f b, d) (f b, d0) :: mapL (fun a => cnd (keyEq a.1 (f k)) (a.1, d) a) kvs := rfl
    rw [e, hf b]
    by_cases z : b = k
    · rw [decide_eq_true z, cnd_true]
      simp only [List.map_cons, z, if_true]
      rw [z] at *
      exact ⟨by rw [g1], rels_cons.mpr ⟨v, _, rfl, rd, g2⟩⟩
    · rw [decide_eq_false z, cnd_false]
      simp only [List.map_cons, z, if_false]
      exact ⟨by rw [g1], rels_cons.mpr ⟨v0, _, rfl, r1, g2⟩⟩
theorem put_rel {κ : Type} [DecidableEq κ] (f : κ → DV) (k : κ) (d : DV) (v : V) (hf : ∀ a, keyEq (f a) (f k) = decide (a = k)) (rd : RelD G ρ H d v) {kvs : List DP} {ks : List (κ × V)} (h : kvs.map (·.1) = ks.map (fun p => f p.1)) (r : RelDs G ρ H (kvs.map (·.2)) (ks.map (·.2))) :
    (putV (f k) d kvs).map (·.1) = (L2.putK ks k v).map (fun p => f p.1) ∧ RelDs G ρ H ((putV (f k) d kvs).map (·.2)) ((L2.putK ks k v).map (·.2)) := by
  unfold putV L2.putK
  rw [has_rel f k hf h]
  cases q : ks.any fun p => decide (p.1 = k) with
  | true =>
    rw [cnd_true]
    simp only [q, if_true]
    exact repl_rel f k d v hf rd h r
  | false =>
    rw [cnd_false, app_eq]
    simp only [Bool.false_eq_true, if_false, List.map_append, List.map_cons, List.map_nil]
    exact ⟨by rw [h], rels_app r (rels_cons.mpr ⟨v, [], rfl, rd, rels_nil.mpr rfl⟩)⟩
end
theorem store_rel {C : Sc} {ρ : List Loc} {dh : DH} {fr : Fr} {σ : L2.St} {H : Hp} {i : Nat} {kvs kvs2 : List DP} {x d : DV} {u y w : V} (st : C.St ρ dh fr σ H) (ro : RelD C.G ρ H (.ref i) u) (hd : dh.get i = some (.dic kvs)) (rx : RelD C.G ρ H x y) (rd : RelD C.G ρ H d w) (e : store x d kvs = some kvs2) :
    ∃ a H', u = .ref a ∧ DPut H a y w H' ∧ C.St ρ (dh.put i (.dic kvs2)) fr σ H' ∧ Le ρ H ρ H' := by
  have e : cnd (keyFit x kvs) (cnd (fits (Nat.succ (lenN kvs))) (some (putV x d kvs)) none) none = some kvs2 := e
  cases hf : keyFit x kvs with
  | false => rw [hf] at e; cases e
  | true =>
    cases hz : fits (Nat.succ (lenN kvs)) with
    | false => rw [hf, hz] at e; cases e
    | true =>
      rw [hf, hz] at e
      have e : some (putV x d kvs) = some kvs2 := e
      cases e
      have hz := fits_le hz
      rw [lenN_eq] at hz
      obtain ⟨a, rfl, ea, h⟩ := st_dic st ro hd
      rcases h with ⟨ks, h0, h1, h2, h3⟩ | ⟨ks, h1, h2, h3⟩
      · cases kvs with
        | nil => cases ks with
          | nil => exact absurd rfl h0
          | cons _ _ => simp at h2
        | cons p r =>
          cases ks with
          | nil => simp at h2
          | cons q s =>
            have hp : p.1 = keyD q.1 := by
              rw [List.map_cons, List.map_cons] at h2
              injection h2
            have hf : cnd (isTup p.1) (tupK x) (flatK x) = true := hf
            have hn : isTup (keyD q.1) = false := by cases q.1 <;> rfl
            rw [hp, hn] at hf
            obtain ⟨k, rfl⟩ := flatK_of hf
            have := rel_key rx
            subst this
            have le : Le ρ H ρ (L2.upd H a (.dK (L2.putK (q :: s) k w))) := le_put (List.mem_of_getElem? ea) h1 (fun φ z => nomatch z)
            obtain ⟨g1, g2⟩ := put_rel keyD k d w (fun a => keyEq_flat a k) rd h2 h3
            have hl : (q :: s).length < sizeLine := by
              have := congrArg List.length h2
              rw [List.length_map, List.length_map] at this
              omega
            refine ⟨a, _, rfl, DPut.k h1 hl, ?_, le⟩
            refine st_put (ob' := .dic (putV (keyD k) d (p :: r))) st ea h1 (fun _ z => nomatch z) (fun _ z => nomatch z) hd (fun _ z => nomatch z) (fun _ z => nomatch z) ?_
            show ∃ b, Loc.ob a = .ob b ∧ DicAt C.G ρ (L2.upd H a (.dK (L2.putK (q :: s) k w))) b _
            refine ⟨a, rfl, .inl ⟨_, ?_, upd_same, g1, RelDs.later st.hr.plain le g2⟩⟩
            intro z
            have := congrArg List.length g1
            rw [z] at this
            rw [List.length_map, List.length_map] at this
            unfold putV at this
            cases q0 : hasV (keyD k) (p :: r) with
            | true => rw [q0, cnd_true, mapL_eq, List.length_map] at this; simp at this
            | false => rw [q0, cnd_false, app_eq, List.length_append] at this; simp at this
      · have hk : ∃ k : List Key, x = .tup (k.map keyD) := by
          cases kvs with
          | nil => exact tupK_of hf
          | cons p r =>
            cases ks with
            | nil => simp at h2
            | cons q s =>
              have hp : p.1 = .tup (q.1.map keyD) := by
                rw [List.map_cons, List.map_cons] at h2
                injection h2
              have hf : cnd (isTup p.1) (tupK x) (flatK x) = true := hf
              rw [hp] at hf
              exact tupK_of hf
        obtain ⟨k, rfl⟩ := hk
        obtain ⟨b, vs, rfl, hb, rv⟩ := rel_tup.mp rx
        have := rel_keys rv
        subst this
        have le : Le ρ H ρ (L2.upd H a (.dT (L2.putK ks k w))) := le_put (List.mem_of_getElem? ea) h1 (fun φ z => nomatch z)
        obtain ⟨g1, g2⟩ := put_rel (fun l : List Key => DV.tup (l.map keyD)) k d w (fun a => keyEq_tup a k) rd h2 h3
        have hl : ks.length < sizeLine := by
          have := congrArg List.length h2
          rw [List.length_map, List.length_map] at this
          omega
        refine ⟨a, _, rfl, DPut.t h1 hb hl, ?_, le⟩
        refine st_put (ob' := .dic (putV (.tup (k.map keyD)) d kvs)) st ea h1 (fun _ z => nomatch z) (fun _ z => nomatch z) hd (fun _ z => nomatch z) (fun _ z => nomatch z) ?_
        show ∃ b, Loc.ob a = .ob b ∧ DicAt C.G ρ (L2.upd H a (.dT (L2.putK ks k w))) b _
        exact ⟨a, rfl, .inr ⟨_, upd_same, g1, RelDs.later st.hr.plain le g2⟩⟩
/-! ### a[i] = v -/
def rSetDt : TSet := fun o i v H Q => ∃ a H', o = V.ref a ∧ DPut H a i v H' ∧ Q H'
theorem set_dict {X : Cx} (hu : X.A.units + 1 < cLine) : PSet X rSetDt := by
  intro pins s σ H o i v ov iv u Q I ro ri rv h
  obtain ⟨a, H', rfl, g, q⟩ := h
  cases ro
  exact d_setItem hu I g ri rv fun s' I' => ⟨H', I', q⟩
theorem PSet.or {X : Cx} {t t' : TSet} (h : PSet X t) (h' : PSet X t') : PSet X (fun o i v H Q => t o i v H Q ∨ t' o i v H Q) := fun pins s σ H o i v ov iv u Q I ro ri rv q => q.elim (h pins s σ H o i v ov iv u Q I ro ri rv) (h' pins s σ H o i v ov iv u Q I ro ri rv)
section
variable {C : Sc} {e e2 : Expr} {a b : Ex} {ss : List Nat} {pos : Pos}
theorem sg_ix (ha : PE C.X e (C.E a)) (hb : PE C.X e2 (C.E b)) (hs : ∀ v, assign (.Subscript e e2 pos) C.X.env v = (do
      let ov ← holding [v] (eval e C.X.env)
      let iv ← holding [v, ov] (eval e2 C.X.env)
      standAt pos
      holding [v, ov, iv] (setItem ov iv v)
      release [v, ov, iv] [])) : PG C.X (.Subscript e e2 pos) (C.Tg ss (gIx a b)) := by
  refine pg_imp (pg_sub ha hb (PSet.or set_list (set_dict (by have := C.hu; omega))) hs) fun v σ H P ⟨ρ, dh, fr, d, k, st, r, ko, h⟩ => ?_
  have noX : ∀ {ρ : List Loc} {H : Hp}, C.XO ρ H fr σ noK := fun _ _ _ _ _ _ _ _ _ _ z => by cases z
  refine E_then st noX h fun ρ1 dh1 H1 d1 v1 st1 le1 r1 h1 => ?_
  refine E_then st1 noX h1 fun ρ2 dh2 H2 d2 v2 st2 le2 r2 h2 => ?_
  obtain ⟨dh3, e3, h3⟩ := onO_some h2
  have r1 := RelD.later st1.hr.plain le2 r1
  have r := RelD.later st.hr.plain (le1.trans le2) r
  cases d1 with
  | ref i =>
    have e3 : obL (obD none (dh2.get i) fun kvs => onO none (store d2 d kvs) fun q => some (dh2.put i (.dic q))) (dh2.get i) (fun xs => onI none d2 fun k => onO none (ixOf (lenN xs) k) fun n => some (dh2.put i (.lst (setAt xs n d)))) = some dh3 := e3
    cases q : dh2.get i with
    | none => rw [q] at e3; cases e3
    | some o =>
      rw [q] at e3
      cases o with
      | lst xs =>
        have e3 : onI none d2 (fun k => onO none (ixOf (lenN xs) k) fun n => some (dh2.put i (.lst (setAt xs n d)))) = some dh3 := e3
        cases d2 with
        | int j =>
          have e3 : onO none (ixOf (lenN xs) j) (fun n => some (dh2.put i (.lst (setAt xs n d)))) = some dh3 := e3
          cases q2 : ixOf (lenN xs) j with
          | none => rw [q2] at e3; cases e3
          | some n =>
            rw [q2] at e3; cases e3
            obtain ⟨p, vs, rfl, ea, s, rr⟩ := st_lst st2 r1 q
            rw [rel_int] at r2; subst r2
            rw [lenN_eq, rels_length rr, ixOf_eq] at q2
            have le3 : Le ρ2 H2 ρ2 (L2.upd H2 p (.lst (vs.set n v))) := le_put (List.mem_of_getElem? ea) s (fun φ z => nomatch z)
            rw [setAt_eq] at h3
            refine .inl ⟨p, vs, j, n, rfl, rfl, s, q2, ko ρ2 _ fr σ _ (st_put (ob' := .lst (xs.set n d)) st2 ea s (fun _ z => nomatch z) (fun _ z => nomatch z) q (fun _ z => nomatch z) (fun _ z => nomatch z) ?_) ((le1.trans le2).trans le3) (fun _ _ => rfl) h3⟩
            show ∃ b ws, Loc.ob p = .ob b ∧ L2.upd H2 p (.lst (vs.set n v)) b = some (.lst ws) ∧ RelDs C.G ρ2 (L2.upd H2 p (.lst (vs.set n v))) (xs.set n d) ws
            exact ⟨p, _, rfl, upd_same, RelDs.later st2.hr.plain le3 (rels_set n rr r)⟩
        | _ => cases e3
      | dic kvs =>
        have e3 : onO none (store d2 d kvs) (fun q => some (dh2.put i (.dic q))) = some dh3 := e3
        cases q2 : store d2 d kvs with
        | none => rw [q2] at e3; cases e3
        | some kvs2 =>
          rw [q2] at e3; cases e3
          obtain ⟨p, H3, rfl, g, st3, le3⟩ := store_rel st2 r1 q r2 r q2
          exact .inr ⟨p, H3, rfl, g, ko ρ2 _ fr σ H3 st3 ((le1.trans le2).trans le3) (fun _ _ => rfl) h3⟩
      | _ => cases e3
  | _ => cases e3
end
end Dz

set_option Elab.async false
set_option linter.all false
set_option maxRecDepth 100000
set_option maxHeartbeats 2000000
/-! Dz: methods of dicts. -/
namespace Dz
open PySem L2
def rDGet : V → List V → Hp → VK → Prop := fun x vs H Q => ∃ a, x = V.ref a ∧ ((∃ y o, vs = [y] ∧ DGet H a y o ∧ Q (o.getD .non) H) ∨ ∃ y d o, vs = [y, d] ∧ DGet H a y o ∧ Q (o.getD d) H)
theorem mt_dget {X : Cx} (hu : X.A.units + 1 < cLine) : MtR X "dict.get" rDGet := by
  intro pins s σ H x xs v us Q I rx rv h
  obtain ⟨a, rfl, h⟩ := h
  cases rx
  rcases h with ⟨y, o, rfl, g, q⟩ | ⟨y, d, o, rfl, g, q⟩
  · obtain ⟨u, rfl, ry⟩ := Vals.one rv
    exact d_get1 hu I g ry fun w' s' I' r' => ⟨_, H, I', r', q⟩
  · obtain ⟨u, w, rfl, ry, rd⟩ := Vals.two rv
    exact d_get2 hu I g ry rd fun w' s' I' r' => ⟨_, H, I', r', q⟩
theorem getD_rel {G : Gv} {ρ : List Loc} {H : Hp} {o : Option DV} {w : Option V} {d : DV} {v : V} (h1 : o = none → w = none) (h2 : ∀ d, o = some d → ∃ v, w = some v ∧ RelD G ρ H d v) (rd : RelD G ρ H d v) : RelD G ρ H (onO d o fun v => v) (w.getD v) := by
  cases o with
  | none => rw [h1 rfl]; exact rd
  | some d' =>
    obtain ⟨u, rfl, r⟩ := h2 d' rfl
    exact r
theorem ok_get {X : Cx} (hu : X.A.units + 1 < cLine) : MtOk X "dict.get" mGet := by
  refine ⟨rDGet, mt_dget hu, fun C ρ dh fr σ H x ds v vs k Q hX st r rr ko h => ?_⟩
  obtain ⟨i, rfl, h⟩ := onR_h h
  obtain ⟨kvs, e1, h⟩ := obD_h h
  obtain ⟨a, rfl, _, hd⟩ := st_dic st r e1
  refine ⟨a, rfl, ?_⟩
  cases ds with
  | nil => cases h
  | cons y r0 =>
    cases r0 with
    | nil =>
      obtain ⟨o, e2, h⟩ := onO_h (show kh (onO none (look y kvs) fun o => some (onO .non o fun v => v, dh)) k = true from h)
      obtain ⟨w, rfl, ry⟩ := rels1 rr
      obtain ⟨o', g, k1, k2⟩ := look_rel hd ry e2
      exact .inl ⟨w, o', rfl, g, ko.now st (getD_rel k1 k2 (rel_non.mpr rfl)) h⟩
    | cons d s =>
      obtain ⟨e0, h⟩ := arg0_h (show kh (arg0 none s (onO none (look y kvs) fun o => some (onO d o fun v => v, dh))) k = true from h)
      subst e0
      obtain ⟨o, e2, h⟩ := onO_h h
      obtain ⟨w, w2, rfl, ry, rd⟩ := rels2 rr
      obtain ⟨o', g, k1, k2⟩ := look_rel hd ry e2
      exact .inr ⟨w, w2, o', rfl, g, ko.now st (getD_rel k1 k2 rd) h⟩
end Dz

set_option Elab.async false
set_option linter.all false
set_option maxRecDepth 100000
set_option maxHeartbeats 2000000
/-! Dz: calls of defs: no arguments; keywords. -/
namespace Dz
open PySem L2
section
variable {C : Sc} {e : Expr} {es : List Expr} {kws : List Keyword} {t tk : Exs} {n m j : Nat} {call : Call} {f : Addr} {fd : FuncData} {ps ks : List Str} {x : Str} {p pos kpos : Pos} {dds : List DV} {dvs : List V} {dsv : List Value} {pm : List PArg} {nm : Option Str} {a : Ex}
/-- f() -/
theorem se_call0 (hc : C.X.calm = true) (F : FD C.X.prog C.X.w C.X.K C.X.mg C.X.base C.k C.G call j f fd ps) (hg : Gl C.X x) (hm : C.X.mg x = some (.ref f)) (hk : PySem.W.keepIn C.X.K (.ref f) = true) (hb : Binds C.X.K fd ps dsv) (hd : Vals dvs dsv) (hdf : Dfl C.G dds dvs) (hp : pm = dds.map .dv) (hdb : (x == ("__debug__" : Str)) = false) :
    PE C.X (.Call (.Name x p) [] [] pos) (C.E (cCall call j pm cNil)) := by
  refine ⟨fun pins s σ H Q I ⟨ρ, dh, fr, kx, k, st, xo, ko, h⟩ => ?_⟩
  refine wpAny_Call_Name_kw (ld_glob I hg hm ?_ hdb)
  have h : onO false (pick pm []) (fun as => call j as dh kx k) = true := h
  have hpk := pick_at (n := 0) (ds := []) rfl dds
  rw [List.range_zero, List.map_nil, List.nil_append, List.nil_append] at hpk
  rw [hp, hpk] at h
  have h : call j dds dh kx k = true := h
  have rd := hdf ρ H
  refine PySem.W.callWith_K0 I.kIn hk ?_
  have hl : (([] : List Value) ++ dsv).length = ps.length := by
    rw [List.nil_append, ← hd.length, ← rels_length rd]; exact F.len _ _ _ _ h
  have hbb := hb s [] I.kIn hl
  refine wpAny_call (codeAny_mono (run_fd F hc I st xo ko hbb (by rw [List.nil_append]; exact hd) rd h) fun r s' hq => ?_)
  cases r with
  | error e => exact hq
  | ok fl =>
    obtain ⟨u, rfl, hq⟩ := hq
    exact hq
/-! ### keywords -/
theorem pk_imp {X : Cx} {kws : List Keyword} {t t' : TA} (h : PK X kws t) (i : ∀ σ H Q, t' σ H Q → t σ H Q) : PK X kws t' := ⟨fun pos pins s σ H Q I q => h.run pos pins s σ H Q I (i _ _ _ q)⟩
theorem sk_nil : PK C.X [] (C.Es 0 cNil) := pk_imp pk_nil fun σ H Q ⟨ρ, dh, fr, kx, k, st, xo, ko, h⟩ => ko ρ dh H [] [] st (Le.refl ρ H) (rels_nil.mpr rfl) rfl h
theorem sk_cons (he : PE C.X e (C.E a)) (hs : PK C.X kws (C.Es n tk)) : PK C.X (⟨nm, e, kpos⟩ :: kws) (C.Es (n + 1) (cCons a tk)) := by
  refine pk_imp (pk_cons he hs) fun σ H Q ⟨ρ, dh, fr, kx, k, st, xo, ko, h⟩ => ?_
  refine E_then st xo h fun ρ1 dh1 H1 d v st1 le1 r1 h1 => ?_
  refine Es_then st1 (xo.later le1) h1 fun ρ2 dh2 H2 ds vs st2 le2 r2 z2 h2 => ?_
  exact ko ρ2 dh2 H2 (d :: ds) (v :: vs) st2 (le1.trans le2) (rels_cons.mpr ⟨v, vs, rfl, RelD.later st1.hr.plain le2 r1, r2⟩) (by simp [z2]) h2
/-- how such a call binds -/
def KBnd (G : Gv) (K : PySem.W.Frag) (fd : FuncData) (ps ks : List Str) (n m : Nat) (pm : List PArg) : Prop := ∀ (s : Shared) (us ws : List Value) (vs zs : List V) (ds es as : List DV) (ρ : List Loc) (H : Hp), K.In s.heap → ds.length = n → es.length = m → Vals vs us → Vals zs ws → RelDs G ρ H ds vs → RelDs G ρ H es zs → pick pm (ds ++ es) = some as → as.length = ps.length →
  ∃ us' vs', BindsTo s fd ⟨us, ks.zip ws⟩ (ps.zip us') ∧ Vals vs' us' ∧ RelDs G ρ H as vs'
/-- f(e, .., k = v, ..) -/
theorem se_callK (hc : C.X.calm = true) (F : FD C.X.prog C.X.w C.X.K C.X.mg C.X.base C.k C.G call j f fd ps) (hg : Gl C.X x) (hm : C.X.mg x = some (.ref f)) (hk : PySem.W.keepIn C.X.K (.ref f) = true) (hb : KBnd C.G C.X.K fd ps ks n m pm)
    (ha : PA C.X (e :: es) (C.Es n t)) (hkw : PK C.X kws (C.Es m tk)) (hall : (backToKw pos (keywordEach kws C.X.env)).all (·.1.isSome) = true) (hks : (backToKw pos (keywordEach kws C.X.env)).filterMap (·.1) = ks)
    (hdb : (x == ("__debug__" : Str)) = false) (he : starEach (e :: es) C.X.env = (false, eval e C.X.env) :: starEach es C.X.env)
    (hpl : ((backTo pos (starEach (e :: es) C.X.env)).any (·.1) || (backToKw pos (keywordEach kws C.X.env)).any (·.1.isNone)) = false) :
    PE C.X (.Call (.Name x p) (e :: es) kws pos) (C.E (cCall call j pm (cApp t tk))) := by
  refine ⟨fun pins s σ H Q I ⟨ρ, dh, fr, kx, k, st, xo, ko, h⟩ => ?_⟩
  refine wpAny_Call_Name_kw (ld_glob I hg hm ?_ hdb)
  have q0 : C.Es n t σ H fun vs H1 => C.Es m tk σ H1 fun zs H2 => ∃ ρ2 dh2 ds es as, C.St ρ2 dh2 fr σ H2 ∧ C.XO ρ2 H2 fr σ kx ∧ C.KO ρ2 H2 fr σ k Q ∧ ds.length = n ∧ es.length = m ∧ RelDs C.G ρ2 H2 ds vs ∧ RelDs C.G ρ2 H2 es zs ∧ pick pm (ds ++ es) = some as ∧ call j as dh2 kx k = true :=
    Es_then st xo h fun ρ1 dh1 H1 ds vs st1 le1 r1 z1 h1 => Es_then st1 (xo.later le1) h1 fun ρ2 dh2 H2 es zs st2 le2 r2 z2 h2 => by
      obtain ⟨as, e1, h3⟩ := onO_some h2
      rw [app_eq] at e1
      exact ⟨ρ2, dh2, ds, es, as, st2, (xo.later le1).later le2, ko.later (le1.trans le2), z1, z2, RelDs.later st1.hr.plain le2 r1, r2, e1, h3⟩
  refine PySem.W.callWith_KW (h₀ := C.X.base) I.ok.mod.kin hk hall (thn (ha.run pos pins s σ H _ I q0) fun us s1 ⟨vs, H1, I1, r, q⟩ => ?_) hpl he
  refine thn (hkw.run pos pins s1 σ H1 _ I1 q) fun ws s2 ⟨zs, H2, I2, rz, ρ2, dh2, ds, es', as, st2, xo2, ko2, z1, z2, r1, r2, e1, h3⟩ => ⟨I2.kIn, ?_⟩
  rw [hks]
  obtain ⟨us', vs', b1, b2, b3⟩ := hb s2 us ws vs zs ds es' as ρ2 H2 I2.kIn z1 z2 r rz r1 r2 e1 (F.len _ _ _ _ h3)
  refine wpAny_call (codeAny_mono (run_fd F hc I2 st2 xo2 ko2 b1 b2 b3 h3) fun r s' hq => ?_)
  cases r with
  | error e => exact hq
  | ok fl =>
    obtain ⟨u, rfl, hq⟩ := hq
    exact hq
/-- f(k = v, ..) -/
theorem se_callK0 (hc : C.X.calm = true) (F : FD C.X.prog C.X.w C.X.K C.X.mg C.X.base C.k C.G call j f fd ps) (hg : Gl C.X x) (hm : C.X.mg x = some (.ref f)) (hk : PySem.W.keepIn C.X.K (.ref f) = true) (hb : KBnd C.G C.X.K fd ps ks 0 m pm)
    (hkw : PK C.X kws (C.Es m tk)) (hall : (backToKw pos (keywordEach kws C.X.env)).all (·.1.isSome) = true) (hks : (backToKw pos (keywordEach kws C.X.env)).filterMap (·.1) = ks)
    (hdb : (x == ("__debug__" : Str)) = false) (hpl : ((backTo pos (starEach [] C.X.env)).any (·.1) || (backToKw pos (keywordEach kws C.X.env)).any (·.1.isNone)) = false) :
    PE C.X (.Call (.Name x p) [] kws pos) (C.E (cCall call j pm tk)) := by
  refine ⟨fun pins s σ H Q I ⟨ρ, dh, fr, kx, k, st, xo, ko, h⟩ => ?_⟩
  refine wpAny_Call_Name_kw (ld_glob I hg hm ?_ hdb)
  have q0 : C.Es m tk σ H fun zs H2 => ∃ ρ2 dh2 es as, C.St ρ2 dh2 fr σ H2 ∧ C.XO ρ2 H2 fr σ kx ∧ C.KO ρ2 H2 fr σ k Q ∧ es.length = m ∧ RelDs C.G ρ2 H2 es zs ∧ pick pm es = some as ∧ call j as dh2 kx k = true :=
    Es_then st xo h fun ρ2 dh2 H2 es zs st2 le2 r2 z2 h2 => by
      obtain ⟨as, e1, h3⟩ := onO_some h2
      exact ⟨ρ2, dh2, es, as, st2, xo.later le2, ko.later le2, z2, r2, e1, h3⟩
  refine PySem.W.callWith_KW0 (h₀ := C.X.base) I.ok.mod.kin hk hall (thn (hkw.run pos pins s σ H _ I q0) fun ws s2 ⟨zs, H2, I2, rz, ρ2, dh2, es', as, st2, xo2, ko2, z2, r2, e1, h3⟩ => ⟨I2.kIn, ?_⟩) hpl
  rw [hks]
  obtain ⟨us', vs', b1, b2, b3⟩ := hb s2 [] ws [] zs [] es' as ρ2 H2 I2.kIn rfl z2 .nil rz (rels_nil.mpr rfl) r2 (by rw [List.nil_append]; exact e1) (F.len _ _ _ _ h3)
  refine wpAny_call (codeAny_mono (run_fd F hc I2 st2 xo2 ko2 b1 b2 b3 h3) fun r s' hq => ?_)
  cases r with
  | error e => exact hq
  | ok fl =>
    obtain ⟨u, rfl, hq⟩ := hq
    exact hq
end
end Dz

set_option Elab.async false
set_option linter.all false
set_option maxRecDepth 100000
set_option maxHeartbeats 2000000
/-! Dz: raise of own classes. -/
namespace Dz
open PySem L2
/-- the class c's call, without fields -/
def MkOk0 (C : Sc) (e : Expr) (c : Nat) : Prop := C.G.flds c = [] ∧ PMk C.X e (fun σ H P => P (.ref (C.G.ca c)) none H)
/-- .. with fields -/
def MkOk1 (C : Sc) (e : Expr) (c n : Nat) (es : Exs) : Prop := (C.G.flds c).length = n ∧ PMk C.X e (fun σ H P => C.Es n es σ H fun vs H1 => ∀ d, H1 d = none → P (.ref (C.G.ca c)) (some d) (L2.upd H1 d (.xd ((C.G.flds c).zip vs))))
section
variable {C : Sc} {e : Expr} {c n : Nat} {es : Exs} {pos : Pos}
theorem s_raise0 (hc : C.X.calm = true) (h : MkOk0 C e c) : PS C.X (.Raise (some e) none pos) (C.S (sRaise c cNil)) := ps_imp (ps_raise hc C.tk h.2) fun D σ H ⟨ρ, dh, fr, nx, rt, ex, bk, ct, st, kn, kr, ke, kb, kc, q⟩ =>
  ke ρ dh fr σ H c [] _ none st (Le.refl _ _) ⟨rfl, .inl ⟨rfl, rfl⟩⟩ q
theorem s_raise (hc : C.X.calm = true) (h : MkOk1 C e c n es) : PS C.X (.Raise (some e) none pos) (C.S (sRaise c es)) := ps_imp (ps_raise hc C.tk h.2) fun D σ H ⟨ρ, dh, fr, nx, rt, ex, bk, ct, st, kn, kr, ke, kb, kc, q⟩ => by
  refine Es_then st ke.xo q fun ρ1 dh1 H1 ds vs st1 le1 r1 z1 h1 => fun d hd => ?_
  have le2 : Le ρ1 H1 ρ1 (L2.upd H1 d (.xd ((C.G.flds c).zip vs))) := le_upd hd
  exact ke ρ1 dh1 fr σ _ c ds _ (some d) (st_upd st1 hd) (le1.trans le2) ⟨rfl, .inr ⟨d, vs, rfl, upd_same, RelDs.later st1.hr.plain le2 r1, by rw [z1, h.1]⟩⟩ h1
end
end Dz

set_option Elab.async false
set_option linter.all false
set_option maxRecDepth 100000
set_option maxHeartbeats 4000000
/-! Dz: several `except X as e` clauses: the library's rules for one such clause and for several without a name, joined. -/
namespace Dz
open PySem L2 PySem.Spec PyProof.Rows
/-- what the clauses wish of an exception of the body, one after the other -/
def wManyAs (K : PySem.W.Frag) (Wout : WX) (D : Ends) : List (Value × Nat × (Addr → Value → Option Addr → TS)) → WX
  | [] => Wout
  | (c, i, ts) :: r => fun cls d σ H => ∃ b, PySem.W.exmOne K cls c = some b ∧ (b = true → ∀ a, H a = none → ts a cls d { nx := fun σ' H' => D.nx (σ'.set i none) H', rt := D.rt, bk := fun σ' H' => D.bk (σ'.set i none) H', ct := fun σ' H' => D.ct (σ'.set i none) H' } (σ.set i (some (.ref a))) H) ∧ (b = false → wManyAs K Wout D r cls d σ H)
inductive HdsAs (X : Cx) : List ExceptHandler → List (Value × Nat × (Addr → Value → Option Addr → TS)) → Prop
  | nil : HdsAs X [] []
  | cons {x n : Str} {c : Value} {i : Nat} {ts : Addr → Value → Option Addr → TS} {b₀ : Stmt} {suite : List Stmt} {np pos' : Pos} {hds : List ExceptHandler} {l : List (Value × Nat × (Addr → Value → Option Addr → TS))} (hc : Names X x c) (hi : X.N[i]? = some n) (hln : X.env.kindOf n = some .local)
      (hsu : ∀ (a : Addr) (oe : Obj) (cls : Value) (d : Option Addr) (pn : List (Addr × Obj)), Zc cls d oe → (∃ vs, oe.data = .fields vs) → PSs (X.suite a ((a, oe) :: pn)) (b₀ :: suite) (ts a cls d)) (r : HdsAs X hds l) :
      HdsAs X (.ExceptHandler (some (.Name x np)) (some n) (b₀ :: suite) pos' :: hds) ((c, i, ts) :: l)
section
variable {X : Cx} {body : List Stmt} {h₀ : ExceptHandler} {hds : List ExceptHandler} {l : List (Value × Nat × (Addr → Value → Option Addr → TS))} {pos : Pos} {tb : WX → TS} {Wout : WX}
theorem ps_try_manyAs (hN : X.N.Nodup) (hs : X.stack = X.env :: X.outer) (hf : X.env.frame = some X.env.locals) (tk : Takes X Wout)
    (hb : ∀ (W : WX) (pn : List (Addr × Obj)) (xe : Value → Shared → Prop), Takes (X.tr pn xe) W → PassesOwn (model X.prog X.w) X.A X.env xe → PSs (X.tr pn xe) body (tb W))
    (hh : HdsAs X (h₀ :: hds) l) : PS X (.Try body (h₀ :: hds) [] [] pos) (fun D σ H => tb (wManyAs X.K Wout D l) D σ H) := by
  refine ⟨fun pins s σ H D I h => ?_⟩
  have ok := I.ok
  have hfr : X.A.frames = some (X.env :: X.outer) := by rw [ok.frames, hs]
  refine wpAny_Try_except ?_
  refine wpAny_mono ((hb (wManyAs X.K Wout D l) (X.pn ++ pins) (fun e s₁ => wpAny (model X.prog X.w) X.A (noteFrame e X.env) (fun _ s₂ => wpAny (model X.prog X.w) X.A (setFlight e none) (fun _ s₃ =>
    wpAny (model X.prog X.w) X.A (handleBy e X.env (h₀ :: hds)) (SP X pins D) X.xe s₃) X.xe s₂) X.xe s₁) (fun u s' xx => ?_) PassesOwn.looking).run [] s σ H D (I.toTry _) h) (fun f s1 hsp => ?_) (fun e s1 he => he)
  · -- the catch
    obtain ⟨a, B, sI, pins', σ', H', cls, d, rfl, J', nb, up, sky, na, os, ag, w⟩ := xx
    have J : Inv X pins σ' H' sI := J'.ofTry ok
    have sky' : Sky B (X.env :: X.outer) a (Zc cls d) X.env.locals s'.heap := by rw [← hs]; exact sky
    show wpAny (model X.prog X.w) X.A (noteFrame (.ref a) X.env) _ _ _
    refine Sky.land Zc.steady hfr hf sky' fun h3 fl3 up3 => ?_
    have J3 : Inv X pins σ' H' { s' with heap := h3 } := J.landed nb fl3.1 (up.trans up3) os ag
    obtain ⟨oe3, vs3, he3, hz3, hd3⟩ := fl3.there
    have notFr : ∀ {h : Heap} {o : Obj} {vs : Array Value}, h.FunFrames B (X.env :: X.outer) → h.get? a = some o → o.data = .fields vs → a ∉ frs (X.env :: X.outer) := fun {h o vs} ff e dd hm => by
      obtain ⟨_, o', e', hnf⟩ := ff.mem hm
      rw [e] at e'; cases e'
      exact hnf _ dd
    have nfr := notFr fl3.2.2.1 he3 hd3
    have nL : a ≠ X.env.locals := fun z => nfr (List.mem_filterMap.mpr ⟨X.env, List.mem_cons_self, by rw [hf, z]⟩)
    have nF : a ∉ X.fs := fun hm => by
      obtain ⟨e, he, q⟩ := List.mem_filterMap.mp hm
      exact nfr (List.mem_filterMap.mpr ⟨e, List.mem_cons_of_mem _ he, q⟩)
    have S3 := J3.suite he3 hd3 na nL nF
    have go : ∀ {hds' : List ExceptHandler} {l' : List (Value × Nat × (Addr → Value → Option Addr → TS))}, HdsAs X hds' l' → wManyAs X.K Wout D l' cls d σ' H' →
        wpAny (model X.prog X.w) X.A (handleBy (.ref a) X.env hds') (SP X pins D) X.xe { s' with heap := h3 } := by
      intro hds' l' hk
      induction hk with
      | nil =>
        intro w
        refine wpAny_handleBy_nil ?_
        obtain ⟨k1, k2, k3, oe, vs, T, oT, ts', he, hz, hd, h1, hr⟩ := id fl3
        unfold PySem.passOn
        refine wpAny_bind (wpAny_field he hd h1 ?_)
        rw [if_neg (show ¬ ((Value.ref T == Value.none) = true) from by simp)]
        have fin : wpAny (model X.prog X.w) X.A (setFlight (.ref a) X.env.frame) (fun _ s4 => wpAny (model X.prog X.w) X.A (throw (.ref a) : Sem Flow) (SP X pins D) X.xe s4) X.xe { s' with heap := h3 } := by
          rw [hf]
          refine HandSPX.setFlight_upZ fl3 fun h4 hh4 up4 => wpAny_throw (tk _ _ ?_)
          exact ⟨a, B, sI, pins, σ', H', cls, d, rfl, J, nb, (up.trans up3).trans up4, .inr (.inr (by rw [hs]; exact hh4)), na, os, ag, w⟩
        first
          | exact wpAny_bind (wpAny_pure (wpAny_bind fin))
          | exact wpAny_bind fin
      | @cons x n c i ts b₀ suite np pos' hds2 l2 hc hi hln hsu r ih =>
        intro w
        obtain ⟨b, hb1, hyes, hno⟩ := w
        refine wpAny_handleBy_cons (codeAny_handlers_test ?_) (by intro q; cases q)
        have LT : PySem.W.Looks (model X.prog X.w) h3 (typeOf (.ref a)) cls := fun A Q E s k q => wpAny_typeOf_ref (k _ _ he3) (by rw [hz3.1]; exact q)
        have LM := PySem.W.exm_one (M := model X.prog X.w) (J3.kIn) LT hb1
        have test : ∀ {Q : Value → Shared → Prop} {E : Value → Shared → Prop}, Q c { s' with heap := h3 } → wpAny (model X.prog X.w) (X.A.mark (some (.ref a))) (eval (.Name x np) X.env) Q E { s' with heap := h3 } := fun {Q E} q => by
          obtain ⟨hg, hdbg, hm | ⟨hm, hv, hnn⟩⟩ := hc
          · exact ld_glob (X := X.suite a ((a, oe3) :: (X.pn ++ pins))) S3 hg hm q hdbg
          · exact ld_blt (X := X.suite a ((a, oe3) :: (X.pn ++ pins))) S3 hg hm hv q hnn hdbg
        refine test (LM.here ?_)
        cases b with
        | true =>
          refine codeAny_handlers_suite_as ?_
          refine HandSPX.lands_againZ fl3 fun h4 fl4 up4 => ?_
          have J4 : Inv X pins σ' H' { s' with heap := h4 } := J.landed nb fl4.1 ((up.trans up3).trans up4) os ag
          obtain ⟨oe4, vs4, he4, hz4, hd4⟩ := fl4.there
          have S4 := J4.suite he4 hd4 na nL nF
          refine store_ok (X := X.suite a ((a, oe4) :: (X.pn ++ pins))) (v := .ref a) S4 hN hi (.inl hln) rfl (fun s5 S5 => ?_) (.inr hln)
          refine wpAny_mono ((hsu a oe4 cls d (X.pn ++ pins) hz4 ⟨_, hd4⟩).run [] s5 _ H' _ S5 (hyes rfl a na)) (fun f s6 hsp => ?_) (fun _ _ z => False.elim z)
          have end_ : ∀ {σ6 : L2.St} {H6 : Hp} {Q : Shared → Prop}, Inv (X.suite a ((a, oe4) :: (X.pn ++ pins))) [] σ6 H6 s6 → (∀ s7, Inv X pins (σ6.set i none) H6 s7 → Q s7) →
              wpAny (model X.prog X.w) X.A (do bindName X.env n .none; unbindBehindTheSuite X.env n pos') (fun _ s7 => Q s7) X.xe s6 := fun {σ6 H6 Q} S6 hq => gone_ok (S6.unsuite ok) hN hi hln hq
          cases f with
          | next =>
            obtain ⟨σ6, H6, S6, q6⟩ := hsp
            exact end_ S6 fun s7 J7 => ⟨_, _, J7, q6⟩
          | brk =>
            obtain ⟨σ6, H6, S6, q6⟩ := hsp
            exact end_ S6 fun s7 J7 => ⟨_, _, J7, q6⟩
          | cont =>
            obtain ⟨σ6, H6, S6, q6⟩ := hsp
            exact end_ S6 fun s7 J7 => ⟨_, _, J7, q6⟩
          | ret u =>
            obtain ⟨v6, σ6, H6, S6, r6, q6⟩ := hsp
            exact end_ S6 fun s7 J7 => ⟨_, _, _, J7, r6, q6⟩
        | false =>
          show wpAny _ X.A (handleBy (.ref a) X.env hds2) _ _ _
          exact ih (hno rfl)
    exact go hh w
  · cases f with
    | next =>
      obtain ⟨σ', H', J', q⟩ := hsp
      exact wpAny_execs_nil ⟨σ', H', J'.ofTry ok, q⟩
    | brk =>
      obtain ⟨σ', H', J', q⟩ := hsp
      exact ⟨σ', H', J'.ofTry ok, q⟩
    | cont =>
      obtain ⟨σ', H', J', q⟩ := hsp
      exact ⟨σ', H', J'.ofTry ok, q⟩
    | ret u =>
      obtain ⟨v, σ', H', J', r, q⟩ := hsp
      exact ⟨v, σ', H', J'.ofTry ok, r, q⟩
end
end Dz

set_option Elab.async false
set_option linter.all false
set_option maxRecDepth 100000
set_option maxHeartbeats 2000000
/-! Dz: a, b = x, y. -/
namespace Dz
open PySem L2
section
variable {C : Sc} {a b : Expr} {t : Exs} {i j : Nat} {x y : Str} {px py pt pos : Pos} {kt k2 : Nat} {pt2 : Pos}
theorem s_par2 (hc : C.X.calm = true) (hi : C.X.N[i]? = some x) (hj : C.X.N[j]? = some y) (hij : i ≠ j) (hx : C.X.env.scope.names.lookup x = some .local) (hy : C.X.env.scope.names.lookup y = some .local) (hic : i ∉ C.cs) (hjc : j ∉ C.cs) (ha : PA C.X [a, b] (C.Es 2 t))
    (hw : swappedStores [.Tuple [.Name x px, .Name y py] kt pt] (.Tuple [a, b] k2 pt2) C.X.env = pure (some [x, y]))
    (hs : swapsWithSole [.Tuple [.Name x px, .Name y py] kt pt] (.Tuple [a, b] k2 pt2) pos.line C.X.env = pure false) :
    PS C.X (.Assign [.Tuple [.Name x px, .Name y py] kt pt] (.Tuple [a, b] k2 pt2) pos) (C.S (sPar2 i j t)) := by
  refine ps_imp (ps_par hc C.hN hi hj hij hx hy ha hw hs) fun D σ H ⟨ρ, dh, fr, nx, rt, ex, bk, ct, st, kn, kr, ke, kb, kc, h⟩ => ?_
  refine Es_then st ke.xo h fun ρ1 dh1 H1 ds vs st1 le1 rr z1 h1 => ?_
  cases ds with
  | nil => cases z1
  | cons d r =>
    cases r with
    | nil => cases z1
    | cons e r =>
      cases r with
      | cons _ _ => cases z1
      | nil =>
        obtain ⟨v, w, rfl, r1, r2⟩ := rels2 rr
        exact ⟨v, w, rfl, kn ρ1 dh1 _ _ H1 (st_name (st_name st1 hic r1) hjc r2) le1 h1⟩
end
end Dz

set_option Elab.async false
set_option linter.all false
set_option maxRecDepth 100000
set_option maxHeartbeats 2000000
/-! Dz: d.pop(k), the key there: the library's meetsPop without a default. -/
namespace Dz
open PySem L2 PySem.Spec PyProof.Rows
theorem meetsPop1 {prog : Program} {w : World} {K : Type} [DecidableEq K] {knd : HeapKind prog w K} {d b : Addr} {k : K} (hd : (d == sysModules) = false) :
    MeetsIn prog w (Builtin.«dict.pop» ⟨[.ref d, .ref b], []⟩) (fun A R s => ∃ xs p, knd.room A.in1 ∧ knd.is s.heap k b ∧ s.heap.DictOfH knd d xs ∧ xs.length ≤ sizeLine ∧ atKey xs k = some p ∧
      ∀ h' tk, h'.DictOfH knd d (DT.dropH xs k) → Heap.SameBut d s.heap h' → R (.ok (.ret p.2)) { s with heap := h', toks := tk }) :=
  .of_wp fun A R s ⟨xs, p, hu, hkey, hm, hsz, hp0, hsome⟩ => by
    obtain ⟨o, es, ep, ho, hc, hdat, he, his, hn⟩ := id hm
    have hes : es.size = xs.length := size_of_entries he
    have hpart : (keyPart (Value.ref b)).isSome = false := rfl
    unfold Builtin.«dict.pop»
    refine wpAny_bind ?_
    unfold Builtin.Dict.keyAndDefault
    refine wpAny_bind (wpAny_notOrdered_dict hm.typeIs ?_)
    show wpAny _ _ (pure (d, Value.ref b, none)) _ _ s
    refine wpAny_pure ?_
    simp only [hpart, Bool.false_eq_true, if_false]
    refine wpAny_bind (wpAny_dictEntries ho hdat (wpAny_bind (wpAny_pure ?_)))
    cases hem : es.isEmpty with
    | true =>
      have h0 : xs = [] := by
        have z : es.size = 0 := by simpa using hem
        exact List.length_eq_zero_iff.mp (by omega)
      rw [h0] at hp0
      cases hp0
    | false =>
      simp only [Bool.false_eq_true, if_false]
      refine wpAny_bind (DT.takeH hu hkey hm hsz (fun hno => ?_) fun p2 e hp hev h' hm' hs' => ?_)
      · rw [hp0] at hno; cases hno
      · rw [hp0] at hp; cases hp
        simp only [Option.isNone_some, Bool.false_eq_true, if_false]
        exact wpAny_bind (wpAny_letGo (wpAny_pure ⟨e.val, rfl, by rw [hev]; exact hsome h' _ hm' hs'⟩))
def rPop1 : V → List V → Hp → VK → Prop := fun x xs H Q => ∃ (a : Addr) (kvs : List (List L2.Key × V)) (k : List L2.Key) (b : Addr) (v : V), x = .ref a ∧ xs = [.ref b] ∧ H a = some (.dT kvs) ∧ H b = some (.tup (k.map kV)) ∧ valV kvs k = some v ∧ Q v (L2.upd H a (.dT (L2.dropK kvs k)))
theorem mt_pop1 {X : Cx} (hu : X.A.units + 1 < cLine) : MtR X "dict.pop" rPop1 := by
  intro pins s σ H x xs v us Q I rx rxs h
  obtain ⟨a, kvs, k, b, v0, rfl, rfl, ha, hb, ev, q⟩ := h
  cases rx
  obtain ⟨u1, rfl, r1⟩ := vals1 rxs
  cases r1
  obtain ⟨z, hd, xs', rel, dd⟩ := dt_of I.hok ha
  have hz : xs'.length ≤ sizeLine := by rw [← Paired.length rel]; exact z
  have r := rel.val k
  rw [ev] at r
  obtain ⟨p, hp, rv⟩ : ∃ p, atKey xs' k = some p ∧ RelV v0 p.2 := by
    cases e : atKey xs' k with
    | none => rw [e] at r; exact (show False from r).elim
    | some p => rw [e] at r; exact ⟨p, rfl, r⟩
  refine call_meetsIn PySem.F.slot_dict_pop dd.typeIs PySem.F.entry_dict_pop (PySem.F.args_dict_pop_2 _ _) (meetsPop1 (knd := tupleKind (mixKind X.prog X.w)) (k := k) hd)
    ⟨xs', p, tupleKind_room_in1 hu, key_of I.hok hb, dd, hz, hp, fun h' tk dd' hs => ?_⟩
  obtain ⟨o, es, ep, hq, h2, h3, h4, _, h5⟩ := dd'
  have I2 : L2.Inv X pins σ (L2.upd H a (.dT (L2.dropK kvs k))) { s with heap := h', toks := tk } :=
    d_write I (by rw [ha]; exact True.intro) hs ⟨o, hq⟩ ⟨Nat.le_trans (dropK_le kvs k) z, hd, _, (DX.KT_drop k rel).keeps (fun c ys ec => (by rw [upd_ne (ne_of ec ha (fun z => nomatch z))]; exact ec)), o, es, ep, hq, h2, h3, h4, h5⟩
  show EP X pins σ Q p.2 _
  exact ⟨v0, _, I2, rv, q⟩
theorem drop_rel {G : Gv} {ρ : List Loc} {H : Hp} {κ : Type} [DecidableEq κ] (f : κ → DV) (k : κ) (hf : ∀ a, keyEq (f a) (f k) = decide (a = k)) : ∀ {kvs : List DP} {ks : List (κ × V)}, kvs.map (·.1) = ks.map (fun p => f p.1) → RelDs G ρ H (kvs.map (·.2)) (ks.map (·.2)) →
    (delV (f k) kvs).map (·.1) = (L2.dropK ks k).map (fun p => f p.1) ∧ RelDs G ρ H ((delV (f k) kvs).map (·.2)) ((L2.dropK ks k).map (·.2))
  | [], [], _, _ => ⟨rfl, rels_nil.mpr rfl⟩
  | [], _ :: _, h, _ => by simp at h
  | _ :: _, [], h, _ => by simp at h
  | (a, d0) :: kvs, (b, v0) :: ks, h, r => by
    rw [List.map_cons, List.map_cons] at h r
    injection h with h1 h2
    have h1 : a = f b := h1
    subst h1
    obtain ⟨u, us, e, r1, r2⟩ := rels_cons.mp r
    injection e with e1 e2
    subst e1 e2
    obtain ⟨g1, g2⟩ := drop_rel f k hf h2 r2
    have e : delV (f k) ((f b, d0) :: kvs) = cnd (keyEq (f b) (f k)) (delV (f k) kvs) ((f b, d0) :: delV (f k) kvs) := rfl
    rw [e, hf b]
    by_cases z : b = k
    · rw [decide_eq_true z, cnd_true]
      have : L2.dropK ((b, v0) :: ks) k = L2.dropK ks k := List.filter_cons_of_neg (by simp [z])
      rw [this]
      exact ⟨g1, g2⟩
    · rw [decide_eq_false z, cnd_false]
      have : L2.dropK ((b, v0) :: ks) k = (b, v0) :: L2.dropK ks k := List.filter_cons_of_pos (by simp [z])
      rw [this, List.map_cons, List.map_cons, List.map_cons, List.map_cons]
      exact ⟨by rw [g1], rels_cons.mpr ⟨v0, _, rfl, r1, g2⟩⟩
theorem ok_popD {X : Cx} (hu : X.A.units + 1 < cLine) : MtOk X "dict.pop" mPopD := by
  refine ⟨rPop1, mt_pop1 hu, fun C ρ dh fr σ H x ds v vs k Q hX st r rr ko h => ?_⟩
  obtain ⟨i, rfl, h⟩ := onR_h h
  obtain ⟨kvs, e1, h⟩ := obD_h h
  obtain ⟨y, rfl, h⟩ := arg1_h h
  obtain ⟨f1, h⟩ := cnd_h h
  obtain ⟨f2, h⟩ := cnd_h h
  obtain ⟨d, e2, h⟩ := onO_h h
  obtain ⟨kk, rfl⟩ := tupK_of f1
  obtain ⟨w, rfl, ry⟩ := rels1 rr
  obtain ⟨b, ws, rfl, hb, rv⟩ := rel_tup.mp ry
  have := rel_keys rv
  subst this
  obtain ⟨a, rfl, ea, hd⟩ := st_dic st r e1
  rcases hd with ⟨ks, h0, h1, h2, h3⟩ | ⟨ks, h1, h2, h3⟩
  · exfalso
    cases kvs with
    | nil => cases ks with
      | nil => exact absurd rfl h0
      | cons _ _ => simp at h2
    | cons p r0 =>
      cases ks with
      | nil => simp at h2
      | cons q s =>
        have hp : p.1 = keyD q.1 := by
          rw [List.map_cons, List.map_cons] at h2
          injection h2
        have f2 : cnd (isTup p.1) (tupK (.tup (kk.map keyD))) (flatK (.tup (kk.map keyD))) = true := f2
        have hn : isTup (keyD q.1) = false := by cases q.1 <;> rfl
        rw [hp, hn] at f2
        cases f2
  · obtain ⟨g1, g2⟩ := find_rel (fun l : List Key => DV.tup (l.map keyD)) kk (fun a => keyEq_tup a kk) h2 h3
    obtain ⟨v0, ev, r0⟩ := g2 d e2
    obtain ⟨k1, k2⟩ := drop_rel (fun l : List Key => DV.tup (l.map keyD)) kk (fun a => keyEq_tup a kk) h2 h3
    have le : Le ρ H ρ (L2.upd H a (.dT (L2.dropK ks kk))) := le_put (List.mem_of_getElem? ea) h1 (fun φ z => nomatch z)
    refine ⟨a, ks, kk, b, v0, rfl, rfl, h1, hb, ev, ko ρ _ _ d v0 (st_put (ob' := .dic (delV (.tup (kk.map keyD)) kvs)) st ea h1 (fun _ z => nomatch z) (fun _ z => nomatch z) e1 (fun _ z => nomatch z) (fun _ z => nomatch z) ?_) le (RelD.later st.hr.plain le r0) h⟩
    show ∃ c, Loc.ob a = .ob c ∧ DicAt C.G ρ (L2.upd H a (.dT (L2.dropK ks kk))) c _
    exact ⟨a, rfl, .inr ⟨_, upd_same, k1, RelDs.later st.hr.plain le k2⟩⟩
end Dz

set_option Elab.async false
set_option linter.all false
set_option maxRecDepth 100000
set_option maxHeartbeats 2000000
/-! Dz: divmod. -/
namespace Dz
open PySem L2
theorem ok_divmod {X : Cx} : BcOk X (.builtin "divmod") bDivmod := by
  refine ⟨_, call_divmodW, fun C ρ dh fr σ H ds vs k Q hX st rr ko h => ?_⟩
  subst hX
  obtain ⟨x, y, rfl, h⟩ := on2_h h
  obtain ⟨v, w, rfl, r1, r2⟩ := rels2 rr
  obtain ⟨i, rfl, h⟩ := onI_h h
  obtain ⟨j, rfl, h⟩ := onI_h h
  obtain ⟨f1, h⟩ := cnd_h h
  obtain ⟨f2, h⟩ := cnd_h h
  rw [intLt_iff, decide_eq_true_iff] at f1
  rw [rel_int] at r1 r2; subst r1 r2
  refine ⟨i, j, rfl, ⟨f1, PyProof.noPylong_of_log2 (Nat.lt_succ_of_le (Nat.le_of_ble_eq_true f2))⟩, ko.tup st ?_ h⟩
  exact rels_cons.mpr ⟨_, _, rfl, rel_int.mpr rfl, rels_cons.mpr ⟨_, [], rfl, rel_int.mpr rfl, rels_nil.mpr rfl⟩⟩
end Dz

set_option Elab.async false
set_option linter.all false
set_option maxRecDepth 100000
set_option maxHeartbeats 2000000
/-! Dz: what is never reached; enumerate; sorted lists of ints; dict displays with constant keys. -/
namespace Dz
open PySem L2
section
variable {C : Sc} {e : Expr} {st : Stmt}
theorem s_no : PS C.X st (C.S sNo) := ⟨fun pins s σ H D I q => by obtain ⟨_, _, _, _, _, _, _, _, _, _, _, _, _, _, h⟩ := q; cases h⟩
theorem e_no : PE C.X e (C.E cNo) := ⟨fun pins s σ H Q I q => by obtain ⟨_, _, _, _, _, _, _, _, h⟩ := q; cases h⟩
end
/-! ### enumerate -/
theorem nxEnm_none {d : DV} {i : Nat} {h : DH} (e : nxEnm d i h = some none) : ∃ xs, seqOf d h = some xs ∧ nth xs i = none := by
  unfold nxEnm at e
  cases q : seqOf d h with
  | none => rw [q] at e; cases e
  | some xs =>
    rw [q] at e
    refine ⟨xs, rfl, ?_⟩
    cases q3 : nth xs i with
    | none => rfl
    | some x =>
      have e : some (onO none (nth xs i) fun x => some (DV.tup [.int (.ofNat i), x])) = some none := e
      rw [q3] at e; cases e
theorem nxEnm_some {d : DV} {i : Nat} {h : DH} {r : DV} (e : nxEnm d i h = some (some r)) : ∃ xs x, seqOf d h = some xs ∧ nth xs i = some x ∧ r = .tup [.int (.ofNat i), x] := by
  unfold nxEnm at e
  cases q : seqOf d h with
  | none => rw [q] at e; cases e
  | some xs =>
    rw [q] at e
    have e : some (onO none (nth xs i) fun x => some (DV.tup [.int (.ofNat i), x])) = some (some r) := e
    cases q3 : nth xs i with
    | none => rw [q3] at e; cases e
    | some x => rw [q3] at e; cases e; exact ⟨xs, x, rfl, q3, rfl⟩
section
variable {C : Sc} {ρ : List Loc} {dh : DH} {fr : Fr} {σ : L2.St} {H : Hp}
theorem enm_step {T : Addr} {i : Nat} {y : DV} {w : V} (st : C.St ρ dh fr σ H) (hT : H T = none) (ry : RelD C.G ρ H y w) : C.St ρ dh fr σ (L2.upd H T (.tup [.int (i : Nat), w])) ∧ Le ρ H ρ (L2.upd H T (.tup [.int (i : Nat), w])) ∧ RelD C.G ρ (L2.upd H T (.tup [.int (i : Nat), w])) (.tup [.int (.ofNat i), y]) (.ref T) := by
  have le : Le ρ H ρ (L2.upd H T (.tup [.int (i : Nat), w])) := le_upd hT
  refine ⟨st_upd st hT, le, rel_tup.mpr ⟨T, [.int (i : Nat), w], rfl, upd_same, ?_⟩⟩
  exact rels_cons.mpr ⟨_, [w], rfl, rel_int.mpr rfl, rels_cons.mpr ⟨w, [], rfl, RelD.later st.hr.plain le ry, rels_nil.mpr rfl⟩⟩
theorem rel_enm {i : Nat} {b : Addr} (st : C.St ρ dh fr σ H) (r : RelD C.G ρ H (.ref i) (.ref b)) : RelIt C.G C.X.K ρ H (.enm (.ref i)) (Ite C.X.K b) := fun C2 hG hK ρ' dh' fr' σ' H' n st' le => by
  have r' := RelD.later st.hr.plain le r
  rw [← hG] at r'
  refine ⟨fun e => ?_, fun d e => ?_⟩
  · obtain ⟨xs, e1, e3⟩ := nxEnm_none e
    obtain ⟨_, vs, h0, _, h3, h4⟩ := st_lst st' r' (seqL e1)
    cases h0
    exact ⟨vs, .inl (.inl h3), nth_none h4 e3⟩
  · obtain ⟨xs, x, e1, e3, rfl⟩ := nxEnm_some e
    obtain ⟨_, vs, h0, _, h3, h4⟩ := st_lst st' r' (seqL e1)
    cases h0
    obtain ⟨v, h5, h6⟩ := nth_some h4 e3
    refine ⟨⟨vs, v, .inl (.inl h3), h5⟩, fun z H2 ⟨T, v', q1, q2, q3, q4⟩ => ?_⟩
    have a1 := q4 vs (.inl (.inl h3))
    rw [h5] at a1; cases a1
    subst q1 q3
    exact enm_step st' q2 h6
end
end Dz
/-! ### enumerate(tuple) -/
namespace Dz
open PySem L2 PySem.Spec PyProof.Rows
open Sem (wp)
open AutoSeq1 (wpAny_loadPart')
def tupI (l : Addr) : Obj := { cls := .type "tuple_iterator", data := .fields #[.ref l, .int 0 0] }
def enmO (i : Addr) : Obj := { cls := .type "enumerate", data := .fields #[.none, .bool false, .ref i, rawInt 0, .none, .none] }
theorem enm_new (l : Addr) (items : Array Value) (n : Nat) (dct : Option Addr) (sl : Array (Option Value)) :
    Meets (Builtin.«enumerate.__new__» ⟨[.type "enumerate", .ref l], []⟩) (fun _ R s => s.heap.get? l = some { cls := .type "tuple", dict := dct, data := .seq items n, slots := sl } ∧
      R (.ok (.ret (.ref (s.heap.push (tupI l)).objs.size))) { s with heap := (s.heap.push (tupI l)).push (enmO s.heap.objs.size) }) :=
  .of_wp fun prog w A R s h => by
    obtain ⟨hp, g, d, tk, os⟩ := s
    obtain ⟨hl, h⟩ := h
    have sub := sub_enumerate
    have hT : Heap.IsTuple (Shared.heap ⟨hp, g, d, tk, os⟩) l items := ⟨_, hl, rfl, n, rfl⟩
    wp_walk using wpAny_loadPart' hl
    refine wpAny_stack_any fun st => wpAny_pure ?_
    split
    · rename_i c _ _ _ _ _
      cases (c == Value.type "enumerate")
      · wp_walk using wpAny_loadPart' hl, wpAny_pyIter_tuple hT
        exact ⟨_, rfl, h⟩
      · wp_walk using wpAny_loadPart' hl, wpAny_pyIter_tuple hT
        exact ⟨_, rfl, h⟩
    · wp_walk using wpAny_loadPart' hl, wpAny_pyIter_tuple hT
      exact ⟨_, rfl, h⟩
section
variable {prog : Program} {w : World} {A : Around} {E : Value → Shared → Prop} {s : Shared}
theorem enm_call {l : Addr} {items : Array Value} {Q : Value → Shared → Prop} (hL : s.heap.IsTuple l items)
    (h : ∀ h', IsEnum h' (s.heap.objs.size + 1) s.heap.objs.size 0 .none → h'.IsTupleIter s.heap.objs.size l 0 → (∀ b o, s.heap.get? b = some o → h'.get? b = some o) → Q (.ref (s.heap.objs.size + 1)) { s with heap := h' }) :
    wpAny (model prog w) A (call (.type "enumerate") [.ref l]) Q E s := by
  obtain ⟨⟨c, dct, dt, sl⟩, hl, hc, n, hd⟩ := hL
  replace hc : c = .type "tuple" := hc
  replace hd : dt = .seq items n := hd
  subst hc hd
  refine callType_new F.called_enumerate (by decide) (F.typeCall_enumerate_1 _) (F.newCall_enumerate_1 _) (fun obj => F.args_object_init_2 obj _) F.entry_enumerate_new (enm_new l items n dct sl) ⟨hl, ?_⟩
  have hz : (s.heap.push (tupI l)).objs.size = s.heap.objs.size + 1 := Heap.size_push ..
  show _ ∧ _
  rw [hz]
  have he : IsEnum ((s.heap.push (tupI l)).push (enmO s.heap.objs.size)) (s.heap.objs.size + 1) s.heap.objs.size 0 .none := by
    have := Heap.get?_push_size (s.heap.push (tupI l)) (o := enmO s.heap.objs.size) rfl
    rw [hz] at this; exact this
  exact ⟨⟨_, he, rfl⟩, h _ he ⟨_, Heap.get?_push_of_some _ (Heap.get?_push_size _ rfl), rfl, rfl⟩ fun b o x => Heap.get?_push_of_some _ (Heap.get?_push_of_some _ x)⟩
end
/-- the tuple at a, each item in a new pair -/
def Itet (K : PySem.W.Frag) (a : Addr) : L2.It :=
  ⟨fun i H => ∃ (xs : List V) (x : V), SqT K H a xs ∧ xs[i]? = some x, fun i H v H' => ∃ T x, v = .ref T ∧ H T = none ∧ H' = L2.upd H T (.tup [.int (i : Nat), x]) ∧ ∀ xs, SqT K H a xs → xs[i]? = some x, fun i H => ∃ xs : List V, SqT K H a xs ∧ xs.length ≤ i⟩
theorem turn_enmT {P : Program} {w : World} {K : PySem.W.Frag} {elts : List Expr} {kk : Nat} {tpos : Pos} (a e it : Addr) :
    Turn P w K (.Tuple elts kk tpos) (Itet K a) [e, it] e (fun i h => (∃ old, IsEnum h e it ((i : Nat) : Int) old) ∧ h.IsTupleIter it a i ∧ e ≠ it) where
  mem := by simp
  obj := fun i h st b hb => by
    obtain ⟨⟨old, he⟩, ⟨o, ho, hc, hd⟩, _⟩ := st
    have e' : b = e ∨ b = it := by simpa using hb
    rcases e' with z | z
    · rw [z]; exact ⟨_, he, fun v q => nomatch q⟩
    · rw [z]; exact ⟨o, ho, fun v q => by rw [hd] at q; cases q⟩
  keep := fun i h h' st k => let ⟨⟨old, he⟩, hi, hne⟩ := st; ⟨⟨old, k e (by simp) _ he⟩, hi.at fun o q => k it (by simp) o q, hne⟩
  item := by
    intro X hP hw hK hc i pins s σ H E I hf st hg
    subst hP hw hK
    obtain ⟨⟨old, he⟩, hit, hne⟩ := st
    obtain ⟨xs, x, hq, hx⟩ := hg
    obtain ⟨its, rv, p, hz⟩ := I.tuple hq
    obtain ⟨u, hu, ru⟩ := rv.get hx
    have p : s.heap.IsTuple a its.toArray := p
    have na : a ≠ it := fun z => by
      obtain ⟨o, ho, hc, _⟩ := hit
      obtain ⟨o', ho', hc', _⟩ := p
      rw [z, ho] at ho'; cases ho'
      rw [hc] at hc'; simp at hc'
    have nb : e ≠ a := fun z => by
      obtain ⟨o', ho', hc', _⟩ := p
      have he : s.heap.get? e = _ := he
      rw [← z, he] at ho'; cases ho'
      simp at hc'
    have hel : e < s.heap.objs.size := Heap.lt_size he
    have hil : it < s.heap.objs.size := by obtain ⟨_, q, _⟩ := hit; exact Heap.lt_size q
    refine wpAny_pyNext_enum_itemD (Draws.tuple (A := X.A.in1) (I.ok.hd hc) it a na its.toArray) he ⟨hit, p⟩ (by obtain ⟨q, _⟩ := List.getElem?_eq_some_iff.mp hu; simpa using q) hne (by simp [hne, nb]) fun x1 h' tk hx1 ho st' hT hsz hk => ?_
    have hx1 : its.toArray[i]? = some x1 := hx1
    have ex : x1 = u := by
      have : its[i]? = some x1 := by simpa using hx1
      rw [hu] at this; exact (Option.some.inj this).symm
    subst ex
    refine ⟨_, rfl, wpAny_letOwnedTupleGo_enum (s := { s with heap := h', toks := tk + 1 }) ho fun h'' he' sb => ?_⟩
    have hT2 : h''.get? s.heap.objs.size = some { cls := .type "tuple", data := .seq #[.int i tk, x1] } := (sb.2 _ (Nat.ne_of_gt hel)).trans hT
    have new : ObjOk X.prog X.w (L2.upd H s.heap.objs.size (.tup [.int (i : Nat), x])) h'' s.heap.objs.size (.tup [.int (i : Nat), x]) :=
      ⟨by show 2 ≤ sizeLine; decide, [.int i tk, x1], .cons ⟨_, rfl⟩ (.cons ru .nil), ⟨_, hT2, rfl, _, rfl⟩⟩
    have I1 : L2.Inv X pins σ (L2.upd H s.heap.objs.size (.tup [.int (i : Nat), x])) { s with heap := h'', toks := tk + 1 } :=
      I.turnedNew (ch := [e, it]) (fun b ob hb q => (sb.2 b (fun z => hb (by simp [z]))).trans (hk b ob (fun z => hb (by simp [z])) (fun z => hb (by simp [z])) q)) hf (Nat.le_refl _) new
    refine ⟨.ref s.heap.objs.size, _, I1, rfl, ⟨_, x, rfl, I.hok.fresh (Nat.le_refl _), rfl, fun ys hy => by rw [I.tuple_inj hy hq]; exact hx⟩, ⟨⟨x1, ?_⟩, st'.1.at fun o q => (sb.2 it (Ne.symm hne)).trans q, hne⟩, fun b hb => ?_⟩
    · have e1 : ((i + 1 : Nat) : Int) = (i : Int) + 1 := by omega
      rw [e1]; exact he'
    · have hb' : b < s.heap.objs.size := by
        have e' : b = e ∨ b = it := by simpa using hb
        rcases e' with z | z
        · rw [z]; exact hel
        · rw [z]; exact hil
      rw [upd_ne (Nat.ne_of_lt hb')]
      exact (hf b hb).1
  done := by
    intro X hP hw hK hc i pins s σ H E I hf st hg
    subst hP hw hK
    obtain ⟨⟨old, he⟩, hit, hne⟩ := st
    obtain ⟨xs, hq, hx⟩ := hg
    obtain ⟨its, rv, p, hz⟩ := I.tuple hq
    obtain ⟨f0, f1, f2, f3, f4, f5⟩ := hf it (by simp)
    have hl := rv.length
    have p : s.heap.IsTuple a its.toArray := p
    have hT : s.TypeIs (.ref e) "enumerate" := ⟨_, he, rfl⟩
    unfold pyNext
    refine wpAny_bind (wpAny_attempt (wpAny_callSpecial?_slot (name := Str.ofString "__next__") hT F.slot_enumerate_next
      (wpAny_call_entry F.slot_enumerate_next hT F.entry_enumerate_next ?_ (F.args_enumerate_next_1 _))))
    show wpAny _ _ (field (.ref e) 2 >>= _) _ _ _
    refine wpAny_bind (wpAny_field he rfl (x := .ref it) rfl ?_)
    refine wpAny_bind (wpAny_nextOf_tuple_end (A := X.A.in1) (I.ok.hd hc) hit p (by simp; omega) fun h' x eb hx' => ?_)
    obtain ⟨o, ho, hcs⟩ := hx'
    refine wpAny_bind (wpAny_isInstance (T := "StopIteration") (b := true) ⟨o, ho, hcs⟩ isSubtype_stop ?_)
    exact wpAny_pure ⟨rfl, I.turned (t' := s.toks) (fun b o hb q => eb b o hb q) f0 f1 f3 f4 f5⟩
  self := fun A i s Q E st h => let ⟨⟨_, he⟩, _⟩ := st; wpAny_pyIter_enum he h
/-- enumerate of a list or a tuple -/
def iEnumA (K : PySem.W.Frag) (ta : TA) : TI := fun σ H R => ta σ H fun vs H1 => ∃ a xs, vs = [.ref a] ∧ ((SqL K H1 a xs ∧ R (Ite K a) H1) ∨ (SqT K H1 a xs ∧ R (Itet K a) H1))
theorem pi_enumA {X : Cx} {e : Expr} {ta : TA} {p pos tpos : Pos} {elts : List Expr} {kk : Nat} (hg : Gl X "enumerate") (hm : X.mg "enumerate" = none) (ha : PA X [e] ta) (hs : starEach [e] X.env = [(false, eval e X.env)] := by rfl) :
    PI X (.Tuple elts kk tpos) (.Call (.Name "enumerate" p) [e] [] pos) (iEnumA X.K ta) := by
  refine ⟨fun pins s σ H R I h => ?_⟩
  refine Call_ (ld_blt I hg hm boot_enumerate (PyProof.Rows.callWith_type1 (thn (ha.run pos pins s σ H _ I h) fun us s1 ⟨vs, H1, I1, r1, q1⟩ => ?_) hs rfl))
  obtain ⟨a, xs, ex, q⟩ := q1
  subst ex
  cases r1 with
  | cons r rr =>
    cases rr
    cases r
    have two : ∀ b, b ∈ [s1.heap.objs.size + 1, s1.heap.objs.size] → FpOk X pins H1 b := fun b hb => by
      have e' : b = s1.heap.objs.size + 1 ∨ b = s1.heap.objs.size := by simpa using hb
      have hle : s1.heap.objs.size ≤ b := by
        rcases e' with z | z
        · rw [z]; exact Nat.le_add_right _ _
        · rw [z]; exact Nat.le_refl _
      exact I1.fpOk hle (I1.hok.fresh hle)
    rcases q with ⟨hq, q⟩ | ⟨hq, q⟩
    · obtain ⟨its, rv, p', hz⟩ := I1.list hq
      refine call_enumerate_list p'.isList fun h' he hit hsz hk => wpAny_pyIter_enum he ?_
      have I2 : L2.Inv X pins σ H1 { s1 with heap := h' } := I1.kept (t' := s1.toks) hk
      exact ⟨s1.heap.objs.size + 1, [s1.heap.objs.size + 1, s1.heap.objs.size], _, _, H1, rfl, I2, turn_enum a (s1.heap.objs.size + 1) s1.heap.objs.size, ⟨⟨.none, he⟩, hit, Nat.succ_ne_self _⟩, two, q⟩
    · obtain ⟨its, rv, p', hz⟩ := I1.tuple hq
      refine enm_call (show s1.heap.IsTuple a its.toArray from p') fun h' he hit hk => wpAny_pyIter_enum he ?_
      have I2 : L2.Inv X pins σ H1 { s1 with heap := h' } := I1.kept (t' := s1.toks) hk
      exact ⟨s1.heap.objs.size + 1, [s1.heap.objs.size + 1, s1.heap.objs.size], _, _, H1, rfl, I2, turn_enmT a (s1.heap.objs.size + 1) s1.heap.objs.size, ⟨⟨.none, he⟩, hit, Nat.succ_ne_self _⟩, two, q⟩
section
variable {C : Sc} {ρ : List Loc} {dh : DH} {fr : Fr} {σ : L2.St} {H : Hp}
theorem rel_enmT {ys : List DV} {a : Addr} {us : List V} (h0 : H a = some (.tup us)) (st : C.St ρ dh fr σ H) (r : RelDs C.G ρ H ys us) : RelIt C.G C.X.K ρ H (.enm (.tup ys)) (Itet C.X.K a) := fun C2 hG hK ρ' dh' fr' σ' H' n st' le => by
  have s' : SqT C.X.K H' a us := SqT.of (tup_later st.hr.plain le h0)
  have r' := RelDs.later st.hr.plain le r
  rw [← hG] at r'
  refine ⟨fun e => ?_, fun d e => ?_⟩
  · obtain ⟨xs, e1, e3⟩ := nxEnm_none e
    cases e1
    exact ⟨us, s', nth_none r' e3⟩
  · obtain ⟨xs, x, e1, e3, rfl⟩ := nxEnm_some e
    cases e1
    obtain ⟨v, h5, h6⟩ := nth_some r' e3
    refine ⟨⟨us, v, s', h5⟩, fun z H2 ⟨T, v', q1, q2, q3, q4⟩ => ?_⟩
    have a1 := q4 us s'
    rw [h5] at a1; cases a1
    subst q1 q3
    exact enm_step st' q2 h6
end
section
variable {C : Sc} {e : Expr} {es' : Exs} {p pos : Pos}
theorem si_enum {elts : List Expr} {kk : Nat} {tpos : Pos} (hg : Gl C.X "enumerate") (hm : C.X.mg "enumerate" = none) (ha : PA C.X [e] (C.Es 1 es')) (hs : starEach [e] C.X.env = [(false, eval e C.X.env)]) :
    PI C.X (.Tuple elts kk tpos) (.Call (.Name "enumerate" p) [e] [] pos) (C.I (iEnum es')) := pi_imp (pi_enumA hg hm ha hs) fun σ H R ⟨ρ, dh, fr, kx, k, st, xo, ki, h⟩ => by
  refine Es_then st xo h fun ρ1 dh1 H1 ds vs st1 le1 rr z1 h1 => ?_
  cases ds with
  | nil => cases h1
  | cons x r =>
    cases r with
    | cons _ _ => cases z1
    | nil =>
      obtain ⟨v, rfl, r1⟩ := rels1 rr
      obtain ⟨xs, e1, h2⟩ := onO_some (show onO false (seqOf x dh1) (fun _ => k (.enm x) dh1) = true from h1)
      cases x with
      | ref i =>
        obtain ⟨b, us, rfl, _, s, _⟩ := st_lst st1 r1 (seqL e1)
        exact ⟨b, us, rfl, .inl ⟨.inl (.inl s), ki ρ1 dh1 H1 _ _ st1 le1 (rel_enm st1 r1) h2⟩⟩
      | tup ys =>
        obtain ⟨b, us, rfl, s, r2⟩ := rel_tup.mp r1
        exact ⟨b, us, rfl, .inr ⟨C.sq s, ki ρ1 dh1 H1 _ _ st1 le1 (rel_enmT s st1 r2) h2⟩⟩
      | _ => cases e1
end
end Dz
namespace Dz
open PySem L2
/-! ### sorted lists of ints -/
theorem intLt_eq (a b : Int) : intLt a b = decide (a < b) := intLt_iff a b
theorem insI_perm (b : Int) : ∀ xs : List Int, (insI b xs).Perm (b :: xs)
  | [] => .refl _
  | a :: r => by
    show (cnd (intLt b a) (b :: a :: r) (a :: insI b r)).Perm _
    cases intLt b a with
    | true => exact .refl _
    | false => exact ((insI_perm b r).cons a).trans (.swap _ _ _)
theorem insI_sorted (b : Int) : ∀ xs : List Int, xs.Pairwise (· ≤ ·) → (insI b xs).Pairwise (· ≤ ·)
  | [], _ => by show [b].Pairwise (· ≤ ·); simp
  | a :: r, h => by
    obtain ⟨h1, h2⟩ := List.pairwise_cons.mp h
    show (cnd (intLt b a) (b :: a :: r) (a :: insI b r)).Pairwise (· ≤ ·)
    rw [intLt_eq]
    by_cases z : b < a
    · rw [decide_eq_true z]
      refine List.pairwise_cons.mpr ⟨fun c hc => ?_, h⟩
      rcases List.mem_cons.mp hc with e | e
      · omega
      · have := h1 c e; omega
    · rw [decide_eq_false z]
      refine List.pairwise_cons.mpr ⟨fun c hc => ?_, insI_sorted b r h2⟩
      rcases List.mem_cons.mp ((insI_perm b r).mem_iff.mp hc) with e | e
      · omega
      · exact h1 c e
theorem sorted_one : ∀ {xs ys : List Int}, xs.Perm ys → xs.Pairwise (· ≤ ·) → ys.Pairwise (· ≤ ·) → xs = ys
  | [], ys, p, _, _ => (List.nil_perm.mp p).symm
  | x :: xs, [], p, _, _ => absurd p.length_eq (by simp)
  | x :: xs, y :: ys, p, hx, hy => by
    obtain ⟨x1, x2⟩ := List.pairwise_cons.mp hx
    obtain ⟨y1, y2⟩ := List.pairwise_cons.mp hy
    have a1 : y ≤ x := by
      rcases List.mem_cons.mp (p.mem_iff.mp (List.mem_cons_self (a := x) (l := xs))) with e | e
      · omega
      · exact y1 x e
    have a2 : x ≤ y := by
      rcases List.mem_cons.mp (p.mem_iff.mpr (List.mem_cons_self (a := y) (l := ys))) with e | e
      · omega
      · exact x1 y e
    have e : x = y := by omega
    subst e
    rw [sorted_one (List.Perm.cons_inv p) x2 y2]
theorem intsOf_of {G : Gv} {ρ : List Loc} {H : Hp} : ∀ {xs : List DV} {vs : List V} {ns : List Int}, RelDs G ρ H xs vs → intsOf xs = some ns → ∃ ms : List Int, vs = ms.map V.int ∧ ns.Perm ms ∧ ns.Pairwise (· ≤ ·)
  | [], vs, ns, r, e => by
    rw [rels_nil] at r; subst r
    cases e
    exact ⟨[], rfl, .refl _, .nil⟩
  | x :: xs, vs, ns, r, e => by
    obtain ⟨v, us, rfl, r1, r2⟩ := rels_cons.mp r
    have e : onI none x (fun i => onO none (intsOf xs) fun q => some (insI i q)) = some ns := e
    cases x with
    | int i =>
      rw [rel_int] at r1; subst r1
      cases q : intsOf xs with
      | none =>
        have e : onO none (intsOf xs) (fun q => some (insI i q)) = some ns := e
        rw [q] at e; cases e
      | some ms =>
        have e : onO none (intsOf xs) (fun q => some (insI i q)) = some ns := e
        rw [q] at e; cases e
        obtain ⟨ks, rfl, h1, h2⟩ := intsOf_of r2 q
        exact ⟨i :: ks, rfl, (insI_perm i ms).trans (h1.cons i), insI_sorted i ms h2⟩
    | _ => cases e
theorem rels_ints {G : Gv} {ρ : List Loc} {H : Hp} : ∀ ns : List Int, RelDs G ρ H (mapL intV ns) (ns.map V.int)
  | [] => rels_nil.mpr rfl
  | i :: r => rels_cons.mpr ⟨.int i, r.map V.int, rfl, rel_int.mpr rfl, rels_ints r⟩
theorem ok_sortI {X : Cx} : BcOk X (.builtin "sorted") bSortI := by
  refine ⟨_, cr_sortedI, fun C ρ dh fr σ H ds vs k Q hX st rr ko h => ?_⟩
  subst hX
  obtain ⟨x, rfl, h⟩ := on1_h h
  obtain ⟨v, rfl, r⟩ := rels1 rr
  obtain ⟨xs, e, h⟩ := onO_h h
  obtain ⟨ns, e2, h⟩ := onO_h h
  obtain ⟨a, us, rfl, s, r1⟩ := lst_rel st r e
  obtain ⟨ms, rfl, h1, h2⟩ := intsOf_of r1 e2
  refine ⟨a, ms, rfl, .inl (.inl s), fun ns' p hp hs hn => ?_⟩
  have e3 : ns' = ns := sorted_one (hp.trans h1.symm) hs h2
  subst e3
  exact ko.lst st (rels_ints ns') h p hn
end Dz

set_option Elab.async false
set_option linter.all false
set_option maxRecDepth 100000
set_option maxHeartbeats 2000000
/-! Dz: dict displays whose keys are unlike constants. -/
namespace Dz
open PySem L2
/-- an object that nothing of the data leans on -/
def Lone (o : HO) : Prop := ((∀ xs, o ≠ .tup xs) ∧ ∀ a u, o ≠ .frz a u) ∧ (∀ φ, o ≠ .ext φ) ∧ ∀ ps, o ≠ .tbl ps
section
variable {G : Gv} {X : Cx} {n0 : Ent} {cs : List Nat} {ρ ρ' : List Loc} {dh : DH} {fr : Fr} {σ : L2.St} {H H' : Hp}
theorem lone_dK (ks : List (Key × V)) : Lone (.dK ks) := ⟨⟨(fun _ z => nomatch z), fun _ _ z => nomatch z⟩, (fun _ z => nomatch z), fun _ z => nomatch z⟩
theorem lone_dT (ks : List (List Key × V)) : Lone (.dT ks) := ⟨⟨(fun _ z => nomatch z), fun _ _ z => nomatch z⟩, (fun _ z => nomatch z), fun _ z => nomatch z⟩
theorem lone_lst (ks : List V) : Lone (.lst ks) := ⟨⟨(fun _ z => nomatch z), fun _ _ z => nomatch z⟩, (fun _ z => nomatch z), fun _ z => nomatch z⟩
theorem upd_lone {D : Addr} {o o' u : HO} {a : Addr} (hD : H D = some o) (h : H a = some u) (n : u ≠ o) : L2.upd H D o' a = some u := by
  rw [upd_ne]
  · exact h
  · intro e; subst e; rw [hD] at h; cases h; exact n rfl
theorem lw_lone {D : Addr} {o o' : HO} (hD : H D = some o) (hl : Lone o) : Lw ρ H ρ (L2.upd H D o') := by
  obtain ⟨⟨n1, n4⟩, n2, n3⟩ := hl
  exact ⟨fun a zs h => upd_lone hD h fun z => n1 _ z.symm, fun f L cl c h => upd_lone hD h fun z => n2 _ z.symm, fun c q h => upd_lone hD h fun z => n2 _ z.symm, fun _ _ h => h, fun a o u h => upd_lone hD h fun z => n4 _ _ z.symm⟩
theorem st_lone {D : Addr} {o o' : HO} (st : StRel G X n0 cs ρ dh fr σ H) (hD : H D = some o) (hl : Lone o) (hl' : Lone o') (hn : Loc.ob D ∉ ρ) : StRel G X n0 cs ρ dh fr σ (L2.upd H D o') := by
  have w : Lw ρ H ρ (L2.upd H D o') := lw_lone hD hl
  refine ⟨⟨st.hr.len, st.hr.nd, st.hr.low, fun i l e => ?_, tabs_put st.hr.tabs hD hl.2.2 hl.2.1⟩, st.sl.lw w, st.fl, st.wl, st.old⟩
  obtain ⟨ob, h1, h2⟩ := st.hr.obj i l e
  refine ⟨ob, h1, h2.lw w (fun a u ha hu => ?_) fun a u hu => upd_lone hD hu fun z => hl.2.1 _ z.symm⟩
  rw [upd_ne]
  · exact hu
  · intro z; subst z; subst ha; exact hn (List.mem_of_getElem? e)
theorem le_lone {ρ0 : List Loc} {H0 : Hp} {D : Addr} {o o' : HO} (le : Le ρ0 H0 ρ H) (h0 : H0 D = none) (hD : H D = some o) : Le ρ0 H0 ρ (L2.upd H D o') := by
  have k : ∀ a u, H0 a = some u → L2.upd H D o' a = H a := fun a u h => by
    rw [upd_ne]
    intro e; subst e; rw [h0] at h; cases h
  refine ⟨le.pre, fun a u h n t => by rw [k a u h]; exact le.keep a u h n t, fun a h => ?_, fun a u h => by rw [k _ _ h]; exact le.cells a u h, fun f L cl c h => by rw [k _ _ h]; exact le.lams f L cl c h, fun c q h => by rw [k _ _ h]; exact le.codes c q h⟩
  by_cases e : a = D
  · subst e; exact h0
  · rw [upd_ne e] at h; exact le.there a h
theorem st_adoptG {D : Addr} {ob : DObj} (st : StRel G X n0 cs ρ dh fr σ H) (hn : Loc.ob D ∉ ρ) (r : ObjRel G X n0 cs σ (ρ ++ [.ob D]) H ρ.length (.ob D) ob) : StRel G X n0 cs (ρ ++ [.ob D]) (dh.new ob) fr σ H := by
  have w : Lw ρ H (ρ ++ [.ob D]) H := ⟨fun _ _ h => h, fun _ _ _ _ h => h, fun _ _ h => h, fun i a h => by rw [List.getElem?_append_left (List.getElem?_eq_some_iff.mp h).1]; exact h, fun _ _ _ h => h⟩
  refine ⟨⟨?_, fun i j l e1 e2 => ?_, ?_, fun i l e => ?_, st.hr.tabs⟩, ?_, st.fl, st.wl, fun i hi o e => ?_⟩
  · rw [new_n, st.hr.len]; simp
  · rcases get_snoc e1 with e1 | ⟨i1, a1⟩ <;> rcases get_snoc e2 with e2 | ⟨i2, a2⟩
    · exact st.hr.nd i j l e1 e2
    · rw [a2] at e1; exact absurd (List.mem_of_getElem? e1) hn
    · rw [a1] at e2; exact absurd (List.mem_of_getElem? e2) hn
    · rw [i1, i2]
  · have := st.hr.low
    simp; omega
  · rcases get_snoc e with e | ⟨e1, e2⟩
    · obtain ⟨u, h1, h2⟩ := st.hr.obj i l e
      have hi : i < ρ.length := (List.getElem?_eq_some_iff.mp e).1
      exact ⟨u, by rw [get_new_ne _ _ (by rw [st.hr.len]; omega)]; exact h1, h2.lw w (fun _ _ _ q => q) fun _ _ q => q⟩
    · subst e1; subst e2
      exact ⟨ob, by rw [← st.hr.len]; exact get_new_same dh _, r⟩
  · intro i d e
    rcases st.sl i d e with ⟨n, v, h1, h2⟩ | ⟨n, c, a, x, h1, h2, h3, h4, h5, h0, h6⟩
    · exact .inl ⟨n, v, h1, RelD.lw w h2⟩
    · refine .inr ⟨n, c, a, x, h1, w.at_ _ _ h2, h3, h4, h5, h0, fun d' e' => ?_⟩
      rw [get_new_ne _ _ (by have := (List.getElem?_eq_some_iff.mp h2).1; rw [st.hr.len]; omega)] at e'
      obtain ⟨v, z1, z2⟩ := h6 d' e'
      exact ⟨v, z1, RelD.lw w z2⟩
  · rw [get_new_ne _ _ (by have := st.hr.low; rw [st.hr.len]; omega)]; exact st.old i hi o e
/-- a place that came to be known was none of the known ones -/
theorem le_notin {D : Addr} (le : Le ρ H ρ' H') (h : H D ≠ none) (hn : Loc.ob D ∉ ρ) : Loc.ob D ∉ ρ' := fun z => by
  obtain ⟨m, e, f⟩ := le.pre
  rw [e] at z
  rcases List.mem_append.mp z with z | z
  · exact hn z
  · exact h (f _ z)
end
/-! ### displays -/
/-- a constant key -/
def KeyC : DV → Option Key
  | .int i => some (.inl i)
  | .str x => some (.inr ⟨x.toArray⟩)
  | _ => none
structure SPs (C : Sc) (pos : Pos) (keys : List (Option Expr)) (values : List Expr) (ks : List Key) (n : Nat) (es : Exs) : Prop where
  ex : ∃ trs, PPs C.X pos keys values trs ∧ ∀ σ H (R : List (V × V) → Hp → Prop), C.Es n es σ H (fun vs H' => R ((ks.map kV).zip vs) H') → tPairs trs σ H R
  len : ks.length = n
section
variable {C : Sc} {pos : Pos} {keys : List (Option Expr)} {values : List Expr} {ks : List Key} {n : Nat} {es : Exs} {e : Expr} {a : Ex} {i : Int} {x : Str} {j : Nat} {kpos : Pos}
theorem sp_nil : SPs C pos [] [] [] 0 cNil := ⟨⟨[], pps_nil, fun σ H R ⟨ρ, dh, fr, kx, k, st, xo, ko, h⟩ => ko ρ dh H [] [] st (Le.refl _ _) (rels_nil.mpr rfl) rfl h⟩, rfl⟩
theorem sp_cons {tk : TE} {ke : Expr} {key : Key} (hk : PE C.X ke tk) (hkk : ∀ σ H Q, Q (kV key) H → tk σ H Q) (he : PE C.X e (C.E a)) (hr : SPs C pos keys values ks n es) : SPs C pos (some ke :: keys) (e :: values) (key :: ks) (n + 1) (cCons a es) := by
  obtain ⟨⟨trs, h1, h2⟩, h3⟩ := hr
  refine ⟨⟨(tk, C.E a) :: trs, pps_cons hk he h1, fun σ H R ⟨ρ, dh, fr, kx, k, st, xo, ko, h⟩ => ?_⟩, by simp [h3]⟩
  refine hkk σ H _ ?_
  refine E_then st xo h fun ρ1 dh1 H1 d v st1 le1 r1 h1 => h2 σ H1 _ ?_
  refine Es_then st1 (xo.later le1) h1 fun ρ2 dh2 H2 ds vs st2 le2 r2 z2 h2 => ?_
  exact ko ρ2 dh2 H2 (d :: ds) (v :: vs) st2 (le1.trans le2) (rels_cons.mpr ⟨v, vs, rfl, RelD.later st1.hr.plain le2 r1, r2⟩) (by simp [z2]) h2
theorem sp_int (he : PE C.X e (C.E a)) (hr : SPs C pos keys values ks n es) : SPs C pos (some (.Constant (.int i) j kpos) :: keys) (e :: values) (.inl i :: ks) (n + 1) (cCons a es) := sp_cons pe_int (fun σ H Q h => h) he hr
theorem sp_str (he : PE C.X e (C.E a)) (hr : SPs C pos keys values ks n es) : SPs C pos (some (.Constant (.str x) j kpos) :: keys) (e :: values) (.inr x :: ks) (n + 1) (cCons a es) := sp_cons pe_str (fun σ H Q h => h) he hr
theorem mergeK_new : ∀ (more kvs : List (Key × V)), ((kvs ++ more).map (·.1)).Nodup → mergeK kvs more = kvs ++ more
  | [], kvs, _ => by simp [mergeK]
  | p :: r, kvs, h => by
    have e : putK kvs p.1 p.2 = kvs ++ [p] := by
      have : ∀ q ∈ kvs, q.1 ≠ p.1 := fun q hq z => by
        rw [List.map_append, List.nodup_append] at h
        exact h.2.2 _ (List.mem_map_of_mem hq) _ (List.mem_map_of_mem (List.mem_cons_self)) z
      unfold putK
      rw [if_neg]
      intro z
      obtain ⟨q, hq, hz⟩ := List.any_eq_true.mp z
      exact this q hq (of_decide_eq_true hz)
    show mergeK (putK kvs p.1 p.2) r = _
    rw [e, mergeK_new r (kvs ++ [p]) (by rw [List.append_assoc]; exact h), List.append_assoc]
    rfl
theorem zipK_fst {G : Gv} {ρ : List Loc} {H : Hp} : ∀ {ks : List Key} {ds : List DV} {vs : List V}, ks.length = ds.length → RelDs G ρ H ds vs → (zipK (ks.map keyD) ds).map (·.1) = (ks.zip vs).map (fun p => keyD p.1) ∧ RelDs G ρ H ((zipK (ks.map keyD) ds).map (·.2)) ((ks.zip vs).map (·.2)) ∧ (ks.zip vs).map (·.1) = ks
  | [], [], vs, _, r => by rw [rels_nil] at r; subst r; exact ⟨rfl, rels_nil.mpr rfl, rfl⟩
  | [], _ :: _, _, h, _ => by cases h
  | _ :: _, [], _, h, _ => by cases h
  | k :: ks, d :: ds, vs, h, r => by
    obtain ⟨v, us, rfl, r1, r2⟩ := rels_cons.mp r
    obtain ⟨h1, h2, h3⟩ := zipK_fst (ks := ks) (by simpa using h) r2
    refine ⟨congrArg (keyD k :: ·) h1, rels_cons.mpr ⟨v, _, rfl, r1, h2⟩, congrArg (k :: ·) h3⟩
theorem se_disp (hp : SPs C pos keys values ks n es) (hn : ks.Nodup) (h0 : keys ≠ []) (h15 : keys.length ≤ 15) (hk : ks.map keyD = kds) (hall : keys.all (·.isSome) = true) (hl : keys.length = values.length) (hkl : keys.length = n) : PE C.X (.Dict keys values pos) (C.E (cDicK kds es)) := by
  obtain ⟨⟨trs, h1, h2⟩, h3⟩ := hp
  subst hk
  refine pe_imp (pe_disp h1 hall hl h0 h15) fun σ H Q ⟨ρ, dh, fr, kx, k, st, xo, ko, h⟩ p hp => h2 σ _ _ ?_
  have np : Loc.ob p ∉ ρ := fun z => (st.hr.plain p z).1.2 hp
  refine Es_then (st_upd (o := .dK []) st hp) (xo.later (le_upd hp)) h fun ρ1 dh1 H1 ds vs st1 le1 r1 z1 h1 => ?_
  have hH1 : H1 p = some (.dK []) := le1.keep p _ upd_same np (fun _ z => nomatch z)
  have np1 : Loc.ob p ∉ ρ1 := le_notin le1 (by rw [upd_same]; simp) np
  obtain ⟨a1, a2, a3⟩ := zipK_fst (ks := ks) (by rw [h3, z1]) r1
  refine ⟨hH1, ks.zip vs, ?_, ?_, ?_⟩
  · rw [List.zip_map_left]; rfl
  · rw [List.length_zip]; omega
  · rw [mergeK_new _ [] (by rw [List.nil_append, a3]; exact hn), List.nil_append]
    have le2 : Le ρ H ρ1 H1 := (le_upd hp).trans le1
    have st2 := st_lone (o' := .dK (ks.zip vs)) st1 hH1 (lone_dK _) (lone_dK _) np1
    have w1 : Lw ρ1 H1 ρ1 (L2.upd H1 p (.dK (ks.zip vs))) := lw_lone hH1 (lone_dK _)
    have w2 : Lw ρ1 H1 (ρ1 ++ [.ob p]) (L2.upd H1 p (.dK (ks.zip vs))) := ⟨w1.tups, w1.lams, w1.codes, fun i a h => by rw [List.getElem?_append_left (List.getElem?_eq_some_iff.mp h).1]; exact h, w1.frzs⟩
    refine ko (ρ1 ++ [.ob p]) _ _ _ _ (st_adoptG (ob := .dic (zipK (ks.map keyD) ds)) st2 np1 ⟨p, rfl, .inl ⟨ks.zip vs, ?_, upd_same, a1, RelDs.lw w2 a2⟩⟩) (le_adopt (le_lone le2 hp hH1) hp) ?_ h1
    · intro z
      have := congrArg List.length a3
      rw [z] at this
      have hz : keys.length = 0 := by rw [hkl, ← h3]; exact this.symm
      exact h0 (List.eq_nil_of_length_eq_zero hz)
    · exact rel_ref.mpr ⟨p, rfl, by rw [st1.hr.len]; simp⟩
theorem se_dict0 : PE C.X (.Dict [] [] pos) (C.E (cDicK [] cNil)) := pe_imp pe_dnewT fun σ H Q ⟨ρ, dh, fr, kx, k, st, xo, ko, h⟩ p hp =>
  ko (ρ ++ [.ob p]) _ _ _ _ (st_new (ob := .dic []) st hp ⟨p, rfl, .inr ⟨[], upd_same, rfl, rels_nil.mpr rfl⟩⟩) (le_new hp) (new_at st p) h
end
end Dz

set_option Elab.async false
set_option linter.all false
set_option maxRecDepth 100000
set_option maxHeartbeats 2000000
/-! Dz: written tuples of texts; global constants; defs by the head's facts. -/
namespace Dz
open PySem L2
def sV (s : Str) : DV := .str s.cps.toList
theorem str_dec (a b : Str) : decide (a.cps.toList = b.cps.toList) = (a == b) := by
  rw [Bool.eq_iff_iff, decide_eq_true_iff, beq_iff_eq]
  constructor
  · intro h
    cases a; cases b
    simp only at h
    exact congrArg Str.mk (Array.toList_inj.mp h)
  · intro h; rw [h]
theorem memS_eq (s : Str) : ∀ ks : List Str, memS s.cps.toList (ks.map sV) = inV (.str s) (ks.map V.str)
  | [] => rfl
  | k :: r => by
    show cnd (natsEq s.cps.toList k.cps.toList) true (memS s.cps.toList (r.map sV)) = ((k == s) || inV (.str s) (r.map V.str))
    rw [memS_eq s r, natsEq_iff, str_dec]
    have : (s == k) = (k == s) := by rw [Bool.eq_iff_iff, beq_iff_eq, beq_iff_eq]; exact eq_comm
    rw [this]
    cases (k == s) <;> rfl
theorem flat_strs : ∀ ks : List Str, (ks.map V.str).all flatV = true
  | [] => rfl
  | k :: r => by rw [List.map_cons, List.all_cons, flat_strs r]; rfl
theorem onS_of {x : DV} {k : List Nat → Bool} (h : onS false x k = true) : ∃ b, x = .str b ∧ k b = true := by
  cases x <;> first | exact ⟨_, rfl, h⟩ | cases h
section
variable {C : Sc} {e : Expr} {a : Ex} {x : Str} {p pos : Pos} {T : Addr} {ks : List Str} {kds : List DV}
theorem inT_str {s : List Nat} {v : V} {ρ : List Loc} {H : Hp} (r : RelD C.G ρ H (.str s) v) : ∃ z : Str, v = .str z ∧ s = z.cps.toList := by
  rw [rel_str] at r
  exact ⟨⟨s.toArray⟩, r, by simp⟩
theorem se_inT (ha : PE C.X e (C.E a)) (hg : Gl C.X x) (hm : C.X.mg x = some (.ref T)) (hT : ∀ H, SqT C.X.K H T (ks.map V.str)) (hk : ks.map sV = kds) (hd : (x == ("__debug__" : Str)) = false) (hb : behindInMarks .In (.Name x p) = false) : PE C.X (.Compare e [.In] [.Name x p] pos) (C.E (cInT false kds a)) := by
  subst hk
  refine pe_imp (pe_cmpR op_in_seq ha (pe_glob (v := .ref T) hg hm rfl hd) hb) fun σ H Q ⟨ρ, dh, fr, kx, k, st, xo, ko, h⟩ => ?_
  refine E_then st xo h fun ρ1 dh1 H1 d v st1 le1 r1 h1 => ?_
  obtain ⟨s, rfl, h2⟩ := onS_of h1
  obtain ⟨z, rfl, rfl⟩ := inT_str r1
  refine ⟨T, _, rfl, .inr (hT _), rfl, flat_strs ks, ?_⟩
  rw [memS_eq] at h2
  refine (ko.later le1).now st1 (rel_bl.mpr ?_) h2
  cases inV (.str z) (ks.map V.str) <;> rfl
theorem se_notInT (ha : PE C.X e (C.E a)) (hg : Gl C.X x) (hm : C.X.mg x = some (.ref T)) (hT : ∀ H, SqT C.X.K H T (ks.map V.str)) (hk : ks.map sV = kds) (hd : (x == ("__debug__" : Str)) = false) (hb : behindInMarks .NotIn (.Name x p) = false) : PE C.X (.Compare e [.NotIn] [.Name x p] pos) (C.E (cInT true kds a)) := by
  subst hk
  refine pe_imp (pe_cmpR op_notIn_seq ha (pe_glob (v := .ref T) hg hm rfl hd) hb) fun σ H Q ⟨ρ, dh, fr, kx, k, st, xo, ko, h⟩ => ?_
  refine E_then st xo h fun ρ1 dh1 H1 d v st1 le1 r1 h1 => ?_
  obtain ⟨s, rfl, h2⟩ := onS_of h1
  obtain ⟨z, rfl, rfl⟩ := inT_str r1
  refine ⟨T, _, rfl, .inr (hT _), rfl, flat_strs ks, ?_⟩
  rw [memS_eq] at h2
  refine (ko.later le1).now st1 (rel_bl.mpr ?_) h2
  cases inV (.str z) (ks.map V.str) <;> rfl
theorem st_notInT (ha : PE C.X e (C.E a)) (hg : Gl C.X x) (hm : C.X.mg x = some (.ref T)) (hT : ∀ H, SqT C.X.K H T (ks.map V.str)) (hk : ks.map sV = kds) (hd : (x == ("__debug__" : Str)) = false) (hb : behindInMarks .NotIn (.Name x p) = false) : PT C.X (.Compare e [.NotIn] [.Name x p] pos) (C.T (cTest (cInT true kds a))) := by
  subst hk
  refine pt_imp (pt_cmpR op_notIn_seq ha (pe_glob (v := .ref T) hg hm rfl hd) hb) fun σ H Q ⟨ρ, dh, fr, kx, k, st, xo, ko, h⟩ => ?_
  refine E_then st xo h fun ρ1 dh1 H1 d v st1 le1 r1 h1 => ?_
  obtain ⟨s, rfl, h2⟩ := onS_of h1
  obtain ⟨z, rfl, rfl⟩ := inT_str r1
  refine ⟨T, _, rfl, .inr (hT _), rfl, flat_strs ks, ⟨_, rfl, ?_⟩⟩
  rw [memS_eq] at h2
  have e : (if true = true then !inV (.str z) (ks.map V.str) else inV (.str z) (ks.map V.str)) = cnd (inV (.str z) (ks.map V.str)) (not true) true := by cases inV (.str z) (ks.map V.str) <;> rfl
  rw [e]
  exact (ko.later le1) ρ1 dh1 H1 _ st1 (Le.refl _ _) h2
/-! ### global constants -/
theorem se_gint {i : Int} (hg : Gl C.X x) (hm : ∃ u, C.X.mg x = some u ∧ RelV (.int i) u) (hd : (x == ("__debug__" : Str)) = false) : PE C.X (.Name x pos) (C.E (cCst (.int i))) := by
  obtain ⟨u, h1, h2⟩ := hm
  exact pe_imp (pe_glob hg h1 h2 hd) fun σ H Q ⟨ρ, dh, fr, kx, k, st, xo, ko, h⟩ => ko.now st (rel_int.mpr rfl) h
theorem se_gstr {z : Str} (hg : Gl C.X x) (hm : ∃ u, C.X.mg x = some u ∧ RelV (.str z) u) (hd : (x == ("__debug__" : Str)) = false) : PE C.X (.Name x pos) (C.E (cCst (.str z.cps.toList))) := by
  obtain ⟨u, h1, h2⟩ := hm
  exact pe_imp (pe_glob hg h1 h2 hd) fun σ H Q ⟨ρ, dh, fr, kx, k, st, xo, ko, h⟩ => ko.now st (rel_str.mpr (by simp)) h
end
/-! ### defs -/
section
variable {P : Program} {w : World} {K : PySem.W.Frag} {mg : Str → Option Value} {base : Heap} {k j more : Nat} {G : Gv} {fns : Nat → FnD} {f : Addr} {fd : FuncData} {x qual : Str} {params : Arguments} {body : List Stmt} {scope : Scope} {dvs : List V} {kws : List (Str × V)} {N ps : List Str} {b : Call → Sx} {call call' : Call}
/-- a def by its body, from the head's fact; r: the room -/
theorem fd_body {inner call' : Call} (F : FunD K x qual params body scope dvs kws f fd) (S : FnScope N ps scope) (hK : G.K = K ∧ G.w = w) (hl : N.length = ps.length + more) (hj : ∀ ds dh kx kk, call' j ds dh kx kk = true → runFn inner (.body ps.length [] more b) ds dh kx kk = true)
    (hbody : ∀ (C : Sc) (A : Around) (outer : List Env) (s : Shared) (H : Hp) (E : XK) (cdv : Value), C.X = fcx P w K mg base N qual scope f cdv A outer s H E → C.cs = [] → C.k = k → C.G = G → C.W = (fun cls d _ H' => E cls d H') → PSs C.X body (C.S (b inner))) :
    FD P w K mg base (k + 1) G call' j f fd ps := by
  obtain ⟨oc, od, dV, kV, doc, pm, an, cdv, ct, osl, rfl, lk, hcd, _, _⟩ := F.ex
  exact fd_gen lk hcd S hK hl hj fun C A outer s H E h1 h2 h3 h4 h5 => hbody C A outer s H E cdv h1 h2 h3 h4 h5
/-- another evaluator that says yes less often -/
theorem FD.imp (F : FD P w K mg base k G call j f fd ps) (h : ∀ ds dh kx kk, call' j ds dh kx kk = true → call j ds dh kx kk = true) : FD P w K mg base k G call' j f fd ps :=
  ⟨fun ds dh kx kk q => F.len ds dh kx kk (h _ _ _ _ q), fun A outer s H args us vs Q E ρ dh ds kx kk hr hg e0 hb r er rd ke kxx q => F.run A outer s H args us vs Q E ρ dh ds kx kk hr hg e0 hb r er rd ke kxx (h _ _ _ _ q)⟩
theorem no_call {ds : List DV} {dh : DH} {kx : KX} {kk : KV} (q : callK fns 0 j ds dh kx kk = true) : False := by
  have q : false = true := q
  cases q
theorem FD.zero : FD P w K mg base k G (callK fns 0) j f fd ps := ⟨fun ds dh kx kk q => (no_call q).elim, fun A outer s H args us vs Q E ρ dh ds kx kk hr hg e0 hb r er rd ke kxx q => (no_call q).elim⟩
theorem FD.mono {k' : Nat} (F : FD P w K mg base k G call j f fd ps) (h : k ≤ k') : FD P w K mg base k' G call j f fd ps := ⟨F.len, fun A outer s H args us vs Q E ρ dh ds kx kk hr => F.run A outer s H args us vs Q E ρ dh ds kx kk (hr.mono h)⟩
end
/-! ### contexts, put together again -/
structure ScP (G : Gv) (X : Cx) (W : WX) (k : Nat) : Prop where
  hK : G.K = X.K
  hu : X.A.units + 200 < cLine
  hr : X.calm = true → Room k X.A
  hg : G.gd = true → X.A.guards = some []
  tk : L2.Takes X W
  hN : X.N.Nodup
  hfs : ∀ x a, X.env.cells.lookup x = some a → a ∉ X.fs
  hinj : ∀ x y c, X.env.cells.lookup x = some c → X.env.cells.lookup y = some c → x = y
  hw : G.w = X.w
abbrev mkSc (G : Gv) (X : Cx) (n0 : Ent) (cs : List Nat) (W : WX) (k : Nat) (p : ScP G X W k) : Sc := ⟨G, X, n0, cs, W, k, p.hK, p.hu, p.hr, p.hg, p.tk, p.hN, p.hfs, p.hinj, p.hw⟩
theorem mkSc_of {T : Sc → Prop} {X : Cx} {G : Gv} {cs : List Nat} {k : Nat} (C : Sc) (hX : C.X = X) (hcs : C.cs = cs) (hk : C.k = k) (hG : C.G = G) (h : ∀ n0 W (p : ScP G X W k), T (mkSc G X n0 cs W k p)) : T C := by
  obtain ⟨G', X', n0, cs', W, k', h1, h2, h3, h4, h5, h6, h7, h8, h9⟩ := C
  have hX : X' = X := hX
  have hcs : cs' = cs := hcs
  have hk : k' = k := hk
  have hG : G' = G := hG
  subst hX hcs hk hG
  exact h n0 W ⟨h1, h2, h3, h4, h5, h6, h7, h8, h9⟩
section
variable {P : Program} {w : World} {K : PySem.W.Frag} {mg : Str → Option Value} {base : Heap} {k j more : Nat} {G : Gv} {fns : Nat → FnD} {f : Addr} {fd : FuncData} {x qual : Str} {params : Arguments} {body : List Stmt} {scope : Scope} {dvs : List V} {kws : List (Str × V)} {N ps : List Str} {b : Call → Sx}
theorem fd_mk {inner call' : Call} (F : FunD K x qual params body scope dvs kws f fd) (S : FnScope N ps scope) (hK : G.K = K ∧ G.w = w) (hl : N.length = ps.length + more) (hj : ∀ ds dh kx kk, call' j ds dh kx kk = true → runFn inner (.body ps.length [] more b) ds dh kx kk = true)
    (hbody : ∀ (A : Around) (outer : List Env) (s : Shared) (H : Hp) (E : XK) (cdv : Value) (n0 : Ent) (W : WX) (p : ScP G (fcx P w K mg base N qual scope f cdv A outer s H E) W k),
      PSs (mkSc G (fcx P w K mg base N qual scope f cdv A outer s H E) n0 [] W k p).X body ((mkSc G (fcx P w K mg base N qual scope f cdv A outer s H E) n0 [] W k p).S (b inner))) :
    FD P w K mg base (k + 1) G call' j f fd ps :=
  fd_body F S hK hl hj fun C A outer s H E cdv h1 h2 h3 h4 _ => mkSc_of (T := fun C => PSs C.X body (C.S (b inner))) C h1 h2 h3 h4 fun n0 W p => hbody A outer s H E cdv n0 W p
end
section
variable {C : Sc} {scope : Scope} {own : List (Str × Nat)} {cs' : List Nat} {elt tg : Expr} {a : Ex} {g : Gx} {T : Sc → Prop}
theorem inBlk (h : ∀ (s3 : Shared) (H3 : Hp) (fp : List Addr) (n0 : Ent) (W : WX) (p : ScP C.G (C.X.blk s3 H3 scope (blkE C.X s3 scope) fp) W C.k), PG (mkSc C.G (C.X.blk s3 H3 scope (blkE C.X s3 scope) fp) n0 cs' W C.k p).X tg ((mkSc C.G (C.X.blk s3 H3 scope (blkE C.X s3 scope) fp) n0 cs' W C.k p).Tg (own.map (·.2)) g) ∧
    PE (mkSc C.G (C.X.blk s3 H3 scope (blkE C.X s3 scope) fp) n0 cs' W C.k p).X elt ((mkSc C.G (C.X.blk s3 H3 scope (blkE C.X s3 scope) fp) n0 cs' W C.k p).E a) ∧ T (mkSc C.G (C.X.blk s3 H3 scope (blkE C.X s3 scope) fp) n0 cs' W C.k p)) : InBlk C scope own cs' elt tg a g T :=
  fun C' s3 H3 fp h1 h2 h3 h4 => mkSc_of (T := fun C' => PG C'.X tg (C'.Tg (own.map (·.2)) g) ∧ PE C'.X elt (C'.E a) ∧ T C') C' h4 h3 h2 h1 fun n0 W p => h s3 H3 fp n0 W p
end
end Dz

set_option Elab.async false
set_option linter.all false
set_option maxRecDepth 100000
set_option maxHeartbeats 2000000
/-! Dz: the rules once more, for a printer: side conditions by rfl. -/
namespace Dz
open PySem L2
theorem nin {i : Nat} {cs : List Nat} (h : List.elem i cs = false) : i ∉ cs := fun z => by
  rw [List.elem_eq_true_of_mem z] at h; cases h
def visB (o : Option NameKind) : Bool := match o with
  | some .local => true
  | some .cell => true
  | some .free => true
  | _ => false
theorem visB_ok {sc : Scope} {x : Str} (h : visB (sc.names.lookup x) = true) : Vis sc x := by
  unfold visB at h
  split at h
  · next e => exact .inl e
  · next e => exact .inr (.inl e)
  · next e => exact .inr (.inr e)
  · cases h
def locB (o : Option NameKind) : Bool := match o with
  | some .local => true
  | some .cell => true
  | _ => false
theorem locB_ok {sc : Scope} {x : Str} (h : locB (sc.names.lookup x) = true) : L2.Loc sc x := by
  unfold locB at h
  split at h
  · next e => exact .inl e
  · next e => exact .inr e
  · cases h
def locO (o : Option NameKind) : Bool := match o with
  | some .local => true
  | _ => false
theorem locO_ok {o : Option NameKind} (h : locO o = true) : o = some .local := by
  unfold locO at h
  split at h
  · rfl
  · cases h
section
variable {C : Sc} {e e2 e3 o : Expr} {es : List Expr} {a b c : Ex} {t u : Tx} {ts tk : Exs} {pos p p2 apos cpos : Pos} {i n m : Nat} {x y : Str}
theorem x_v (hN : C.X.N[i]? = some x := by rfl) (hv : visB (C.X.env.scope.names.lookup x) = true := by rfl) (hc : List.elem i C.cs = false := by rfl) (hd : (x == ("__debug__" : Str)) = false := by rfl) (hcd : (x == ("__classdict__" : Str)) = false := by rfl) : PE C.X (.Name x pos) (C.E (cVar i)) := se_var hN (visB_ok hv) (nin hc) hd hcd
theorem x_cell (hN : C.X.N[i]? = some x := by rfl) (hv : visB (C.X.env.scope.names.lookup x) = true := by rfl) (hc : List.elem i C.cs = true := by rfl) (hd : (x == ("__debug__" : Str)) = false := by rfl) (hcd : (x == ("__classdict__" : Str)) = false := by rfl) : PE C.X (.Name x pos) (C.E (cCell i)) := se_cell hN (visB_ok hv) (List.elem_iff.mp hc) hd hcd
theorem x_gi {i : Int} (hm : ∃ u, C.X.mg x = some u ∧ RelV (.int i) u) (hg : Gl C.X x := by rfl) (hd : (x == ("__debug__" : Str)) = false := by rfl) : PE C.X (.Name x pos) (C.E (cCst (.int i))) := se_gint hg hm hd
theorem x_gs {z : Str} {l : List Nat} (hm : ∃ u, C.X.mg x = some u ∧ RelV (.str z) u) (hg : Gl C.X x := by rfl) (hz : z.cps.toList = l := by rfl) (hd : (x == ("__debug__" : Str)) = false := by rfl) : PE C.X (.Name x pos) (C.E (cCst (.str l))) := by subst hz; exact se_gstr hg hm hd
theorem x_c {n : Nat} {es' : Exs} (he : PE C.X e (C.E a)) (hs : PA C.X es (C.Es n es')) (hn : starEach (e :: es) C.X.env = (false, eval e C.X.env) :: starEach es C.X.env := by rfl) : PA C.X (e :: es) (C.Es (n + 1) (cCons a es')) := ss_cons he hs hn
theorem x_tup {j : Nat} (hs : PA C.X es (C.Es n ts)) (hz : Nat.ble n 1000 = true := by rfl) : PE C.X (.Tuple es j pos) (C.E (cTup ts)) := se_tup hs (by have := Nat.le_of_ble_eq_true hz; rw [sizeLine_eq]; omega)
theorem x_lst (hs : PA C.X es (C.Es n ts)) (hz : Nat.ble n 1000 = true := by rfl) : PE C.X (.List es pos) (C.E (cLst ts)) := se_lst hs (by have := Nat.le_of_ble_eq_true hz; rw [sizeLine_eq]; omega)
/-! operators -/
theorem x_cmp {op : CmpOp} {neg : Bool} {f : DV → DV → DH → T3} (ho : CmpOk n C.X (compareOp op) neg f) (ha : PE C.X e (C.E a)) (hb : PE C.X e2 (C.E b)) (hm : behindInMarks op e2 = false := by rfl) : PE C.X (.Compare e [op] [e2] pos) (C.E (cCmp neg f a b)) := se_cmp ho ha hb hm
theorem y_cmp {op : CmpOp} {neg : Bool} {f : DV → DV → DH → T3} (ho : CmpOk n C.X (compareOp op) neg f) (ha : PE C.X e (C.E a)) (hb : PE C.X e2 (C.E b)) (hm : behindInMarks op e2 = false := by rfl) : PT C.X (.Compare e [op] [e2] pos) (C.T (cTest (cCmp neg f a b))) := st_cmp ho ha hb hm
theorem x_chain {op op2 : CmpOp} {neg neg2 : Bool} {f g : DV → DV → DH → T3} (ho : CmpOk n C.X (compareOp op) neg f) (ho2 : CmpOk n C.X (compareOp op2) neg2 g) (ha : PE C.X e (C.E a)) (hb : PE C.X e2 (C.E b)) (hc : PE C.X e3 (C.E c)) (hm : lastMarks [op, op2] [e2, e3] = false := by rfl) : PE C.X (.Compare e [op, op2] [e2, e3] pos) (C.E (cChain neg neg2 f g a b c)) := se_chain ho ho2 ha hb hc hm
theorem y_chain {op op2 : CmpOp} {neg neg2 : Bool} {f g : DV → DV → DH → T3} (ho : CmpOk n C.X (compareOp op) neg f) (ho2 : CmpOk n C.X (compareOp op2) neg2 g) (ha : PE C.X e (C.E a)) (hb : PE C.X e2 (C.E b)) (hc : PE C.X e3 (C.E c)) (hm : lastMarks [op, op2] [e2, e3] = false := by rfl) : PT C.X (.Compare e [op, op2] [e2, e3] pos) (C.T (cTest (cChain neg neg2 f g a b c))) := st_chain ho ho2 ha hb hc hm
theorem y_val (ha : PE C.X e (C.E a)) (he : ∀ whole, isTrue e C.X.env whole = (do let v ← whole; standAt e.pos; holding [v] (truthy v)) := by intro _; rfl) : PT C.X e (C.T (cTest a)) := st_val ha he
theorem y_w (h : PW C.X e (C.T t)) : PT C.X e (C.T t) := h.pt
theorem x_ix (ha : PE C.X e (C.E a)) (hb : PE C.X e2 (C.E b)) (hs : PlainIx e2) : PE C.X (.Subscript e e2 pos) (C.E (cIx a b)) := se_ix ha hb hs
theorem x_nin {T : Addr} {ks : List Str} {kds : List DV} (hm : C.X.mg x = some (.ref T)) (hT : ∀ H, SqT C.X.K H T (ks.map V.str)) (ha : PE C.X e (C.E a)) (hg : Gl C.X x := by rfl) (hk : ks.map sV = kds := by rfl) (hd : (x == ("__debug__" : Str)) = false := by rfl) (hb : behindInMarks .In (.Name x p) = false := by rfl) : PE C.X (.Compare e [.NotIn] [.Name x p] pos) (C.E (cInT true kds a)) := se_notInT ha hg hm hT hk hd hb
theorem y_nin {T : Addr} {ks : List Str} {kds : List DV} (hm : C.X.mg x = some (.ref T)) (hT : ∀ H, SqT C.X.K H T (ks.map V.str)) (ha : PE C.X e (C.E a)) (hg : Gl C.X x := by rfl) (hk : ks.map sV = kds := by rfl) (hd : (x == ("__debug__" : Str)) = false := by rfl) (hb : behindInMarks .In (.Name x p) = false := by rfl) : PT C.X (.Compare e [.NotIn] [.Name x p] pos) (C.T (cTest (cInT true kds a))) := st_notInT ha hg hm hT hk hd hb
/-! built-ins -/
theorem x_b {f : Bi} {id : String} (hm : C.X.mg x = none) (hc : BcOk C.X (.builtin id) f) (ha : PA C.X (e :: es) (C.Es n ts)) (hg : Gl C.X x := by rfl) (hv : bootBuiltins x = some (.builtin id) := by rfl) (hn : x ≠ "__name__" := by decide) (hdb : (x == ("__debug__" : Str)) = false := by rfl)
    (he : starEach (e :: es) C.X.env = (false, eval e C.X.env) :: starEach es C.X.env := by rfl) (hpl : (backTo pos (starEach es C.X.env)).any (·.1) = false := by rfl) : PE C.X (.Call (.Name x p) (e :: es) [] pos) (C.E (cBc f ts)) := se_callB hc hg hm hv ha hn hdb he hpl
theorem x_bt {f : Bi} {T : String} (hm : C.X.mg x = none) (hc : BcOk C.X (.type T) f) (ha : PA C.X (e :: es) (C.Es n ts)) (hg : Gl C.X x := by rfl) (hv : bootBuiltins x = some (.type T) := by rfl) (hn : x ≠ "__name__" := by decide) (hdb : (x == ("__debug__" : Str)) = false := by rfl)
    (he : starEach (e :: es) C.X.env = (false, eval e C.X.env) :: starEach es C.X.env := by rfl) (hpl : (backTo pos (starEach es C.X.env)).any (·.1) = false := by rfl) : PE C.X (.Call (.Name x p) (e :: es) [] pos) (C.E (cBc f ts)) := se_callTy hc hg hm hv ha hn hdb he hpl
/-- a built-in type's name -/
theorem x_ty {T : String} (hm : C.X.mg x = none) (hg : Gl C.X x := by rfl) (hv : bootBuiltins x = some (.type T) := by rfl) (hn : x ≠ "__name__" := by decide) (hd : (x == ("__debug__" : Str)) = false := by rfl) : PE C.X (.Name x pos) (tC (.ty T)) := ⟨fun pins s σ H Q I h => ld_blt I hg hm hv ⟨.ty T, H, I, rfl, h⟩ hn hd⟩
theorem x_isin {ce : Expr} {nm : String} {sub : Ty → Bool} (hm : C.X.mg "isinstance" = none) (he : PE C.X e (C.E a)) (hc : PE C.X ce (tC (.ty nm))) (hs : ∀ t ∈ plainTys, kitB (tyName t) nm = some (sub t)) (hg : Gl C.X "isinstance" := by rfl)
    (h1 : starEach (e :: [ce]) C.X.env = (false, eval e C.X.env) :: starEach [ce] C.X.env := by rfl) (h2 : starEach (ce :: []) C.X.env = (false, eval ce C.X.env) :: starEach [] C.X.env := by rfl) (hpl : (backTo pos (starEach [ce] C.X.env)).any (·.1) = false := by rfl) :
    PE C.X (.Call (.Name "isinstance" p) [e, ce] [] pos) (C.E (cIsin sub a)) := se_isin hg hm (by rfl) he hc hs h1 h2 hpl
/-! methods -/
theorem x_append (ho : PE C.X o (C.E a)) (ha : PA C.X (e :: es) (C.Es n ts))
    (h1 : attributeBase o "append" C.X.env (eval o C.X.env) = eval o C.X.env := by rfl)
    (h2 : ((backTo cpos (starEach (e :: es) C.X.env)).all (fun x => !x.1) && (backToKw cpos (keywordEach [] C.X.env)).all (fun x => x.1.isSome)
      && decide ((e :: es).length + ([] : List Keyword).length + (if ([] : List Keyword).isEmpty then 0 else 1) < 30)) = true := by rfl)
    (h3 : (apos.endLine == cpos.line) = true := by rfl) (h4 : starEach (e :: es) C.X.env = (false, eval e C.X.env) :: starEach es C.X.env := by rfl) (h5 : (backTo cpos (starEach es C.X.env)).any (·.1) = false := by rfl) :
    PE C.X (.Call (.Attribute o "append" apos) (e :: es) [] cpos) (C.E (cML mAppend a ts)) := se_mL PySem.F.slot_list_append PySem.F.type_list_append ok_append ho ha ⟨h1, h2, h3, h4, h5⟩
/-! what is walked -/
theorem i_rng1 {tg : Expr} (hm : C.X.mg "range" = none) (ha : PA C.X [e] (C.Es 1 ts)) (hg : Gl C.X "range" := by rfl) (hs : starEach [e] C.X.env = [(false, eval e C.X.env)] := by rfl) : PI C.X tg (.Call (.Name "range" p) [e] [] pos) (C.I (iRng ts)) := si_rng1 hg hm ha hs
theorem i_rng2 {tg : Expr} (hm : C.X.mg "range" = none) (ha : PA C.X [e, e2] (C.Es 2 ts)) (hg : Gl C.X "range" := by rfl) (hs : starEach [e, e2] C.X.env = [(false, eval e C.X.env), (false, eval e2 C.X.env)] := by rfl) (hs2 : starEach [e2] C.X.env = [(false, eval e2 C.X.env)] := by rfl) : PI C.X tg (.Call (.Name "range" p) [e, e2] [] pos) (C.I (iRng ts)) := si_rng2 hg hm ha hs hs2
theorem i_enum {elts : List Expr} {kk : Nat} {tpos : Pos} (hm : C.X.mg "enumerate" = none) (ha : PA C.X [e] (C.Es 1 ts)) (hg : Gl C.X "enumerate" := by rfl) (hs : starEach [e] C.X.env = [(false, eval e C.X.env)] := by rfl) : PI C.X (.Tuple elts kk tpos) (.Call (.Name "enumerate" p) [e] [] pos) (C.I (iEnum ts)) := si_enum hg hm ha hs
/-! targets -/
theorem g_n {ss : List Nat} (hi : C.X.N[i]? = some x := by rfl) (hx : locB (C.X.env.scope.names.lookup x) = true := by rfl) (hc : List.elem i C.cs = false := by rfl) (his : List.elem i ss = true := by rfl) (hf : (C.X.fn x || locO (C.X.env.scope.names.lookup x)) = true := by rfl) : PG C.X (.Name x pos) (C.Tg ss (gNm i)) := by
  refine sg_name hi (locB_ok hx) (nin hc) (List.elem_iff.mp his) ?_
  cases q : C.X.fn x with
  | true => exact .inl rfl
  | false => rw [q, Bool.false_or] at hf; exact .inr (locO_ok hf)
theorem g_c {ss : List Nat} {g : Gx} {gs : Gxs} (h1 : PG C.X e (C.Tg ss g)) (h2 : PGs C.X es (C.Tgs ss n gs)) (hs : (assignEach (e :: es) C.X.env).map (·.2) = assign e C.X.env :: (assignEach es C.X.env).map (·.2) := by rfl) : PGs C.X (e :: es) (C.Tgs ss (n + 1) (gCons g gs)) := sg_cons h1 h2 hs
theorem g_tup {ss : List Nat} {gs : Gxs} {j : Nat} (h : PGs C.X es (C.Tgs ss n gs)) (hc : C.X.calm = true := by rfl) (hn : (assignEach es C.X.env).length = n := by rfl) (hst : (assignEach es C.X.env).findIdx? (·.1) = none := by rfl) : PG C.X (.Tuple es j pos) (C.Tg ss (gTup n gs)) := sg_tup hc h hn hst
/-! statements -/
theorem z_expr (he : PE C.X e (C.E a)) (hs : swapsWith e none pos.line C.X.env = pure false := by rfl) : PS C.X (.Expr e pos) (C.S (sExpr a)) := s_expr he hs
theorem z_asg {ss : List Nat} {tg : Expr} {g : Gx} (he : PE C.X e (C.E a)) (hg : PG C.X tg (C.Tg ss g)) (hs : swapsWithSole [tg] e pos.line C.X.env = pure false := by rfl) (hw : swappedStores [tg] e C.X.env = pure none := by rfl)
    (h1 : (assignEach [tg] C.X.env).map (·.2) = [assign tg C.X.env] := by rfl) : PS C.X (.Assign [tg] e pos) (C.S (sAsg g a)) := s_asg he hg hs hw h1
theorem z_for {ss : List Nat} {tg : Expr} {it : Ix} {g : Gx} {sts : List Stmt} {b : Sx} (hi : PI C.X tg e (C.I it)) (hg : PG C.X tg (C.Tg ss g)) (hb : PSs C.X sts (C.S b)) (hp : PassesOwn (model C.X.prog C.X.w) C.X.A C.X.env C.X.xe := by exact passes_of rfl) (hc : C.X.calm = true := by rfl) (hs : ∀ x, foldedSetIterable e C.X.env x = pure x := by intro _; rfl) :
    PS C.X (.For tg e sts [] pos) (C.S (sFor g it b)) := s_for hp hc hi hg hb hs
theorem z_while {sts : List Stmt} {b : Sx} (ht : PT C.X e (C.T t)) (hb : PSs C.X sts (C.S b)) (hp : PassesOwn (model C.X.prog C.X.w) C.X.A C.X.env C.X.xe := by exact passes_of rfl) : PS C.X (.While e sts [] pos) (C.S (sWhile t b)) := s_while hp ht hb
theorem z_par2 {i j : Nat} {kt k2 : Nat} {px py pt pt2 : Pos} (ha : PA C.X [e, e2] (C.Es 2 ts)) (hi : C.X.N[i]? = some x := by rfl) (hj : C.X.N[j]? = some y := by rfl) (hij : Nat.beq i j = false := by rfl) (hx : locO (C.X.env.scope.names.lookup x) = true := by rfl) (hy : locO (C.X.env.scope.names.lookup y) = true := by rfl)
    (hic : List.elem i C.cs = false := by rfl) (hjc : List.elem j C.cs = false := by rfl) (hc : C.X.calm = true := by rfl)
    (hw : swappedStores [.Tuple [.Name x px, .Name y py] kt pt] (.Tuple [e, e2] k2 pt2) C.X.env = pure (some [x, y]) := by rfl)
    (hs : swapsWithSole [.Tuple [.Name x px, .Name y py] kt pt] (.Tuple [e, e2] k2 pt2) pos.line C.X.env = pure false := by rfl) :
    PS C.X (.Assign [.Tuple [.Name x px, .Name y py] kt pt] (.Tuple [e, e2] k2 pt2) pos) (C.S (sPar2 i j ts)) :=
  s_par2 hc hi hj (fun z => by subst z; rw [Nat.beq_refl] at hij; cases hij) (locO_ok hx) (locO_ok hy) (nin hic) (nin hjc) ha hw hs
end
/-! ### comprehensions -/
def blkB (N : List Str) (sc scope : Scope) (own : List (Str × Nat)) (drop cs cs' : List Nat) : Bool :=
  (match scope.kind with | .function => true | _ => false) && (scope.names.all fun y => decide (scope.names.lookup y.1 = some y.2)) && (own.all fun p => decide (N[p.2]? = some p.1)) &&
  (scope.names.all fun y => match y.2 with | .free => (match sc.names.lookup y.1 with | some .cell => true | some .free => true | _ => false) | .local => own.any (fun p => decide (p.1 = y.1)) || !N.contains y.1 | .cell => own.any (fun p => decide (p.1 = y.1)) || !N.contains y.1 | _ => true) &&
  (cs'.all fun i => cs.contains i && (match N[i]? with | some x => scope.names.any (fun y => decide (y.1 = x) && (match y.2 with | .free => true | _ => false)) | none => false)) &&
  (cs.all fun i => cs'.contains i || drop.contains i) && own.all fun p => drop.contains p.2
theorem blkB_ok {C : Sc} {scope : Scope} {own : List (Str × Nat)} {drop cs' : List Nat} (h : blkB C.X.N C.X.env.scope scope own drop C.cs cs' = true) : BlkS C scope own drop cs' := by
  unfold blkB at h
  simp only [Bool.and_eq_true, List.all_eq_true] at h
  obtain ⟨⟨⟨⟨⟨⟨h1, h2⟩, h3⟩, h4⟩, h5⟩, h6⟩, h7⟩ := h
  refine ⟨⟨?_, fun y hy => of_decide_eq_true (h2 y hy), fun p hp => of_decide_eq_true (h3 p hp), fun y hy hf => ?_, fun y hy hl => ?_⟩, fun i hi => ?_, fun i hi hn => ?_, fun i hi => ?_⟩
  · split at h1
    · assumption
    · cases h1
  · have := h4 y hy
    rw [hf] at this
    simp only at this
    split at this
    · next e => exact .inl e
    · next e => exact .inr e
    · cases this
  · have := h4 y hy
    rcases hl with hl | hl
    · rw [hl] at this
      simp only [Bool.or_eq_true, List.any_eq_true, Bool.not_eq_true'] at this
      rcases this with ⟨p, hp, e⟩ | e
      · exact .inl (List.mem_map.mpr ⟨p, hp, of_decide_eq_true e⟩)
      · exact .inr fun z => by rw [List.contains_iff_mem.mpr z] at e; cases e
    · rw [hl] at this
      simp only [Bool.or_eq_true, List.any_eq_true, Bool.not_eq_true'] at this
      rcases this with ⟨p, hp, e⟩ | e
      · exact .inl (List.mem_map.mpr ⟨p, hp, of_decide_eq_true e⟩)
      · exact .inr fun z => by rw [List.contains_iff_mem.mpr z] at e; cases e
  · have := h5 i hi
    refine ⟨List.contains_iff_mem.mp this.1, ?_⟩
    have t := this.2
    split at t
    · next x e =>
      refine ⟨x, e, ?_⟩
      obtain ⟨y, hy, q⟩ := List.any_eq_true.mp t
      rw [Bool.and_eq_true] at q
      have e1 : y.1 = x := of_decide_eq_true q.1
      have q2 := q.2
      split at q2
      · next e2 => rw [← e1, ← e2]; exact hy
      · cases q2
    · cases t
  · have := h6 i hi
    simp only [Bool.or_eq_true] at this
    rcases this with z | z
    · exact absurd (List.contains_iff_mem.mp z) hn
    · exact List.contains_iff_mem.mp z
  · obtain ⟨p, hp, e⟩ := List.mem_map.mp hi
    rw [← e]
    exact List.contains_iff_mem.mp (h7 p hp)
section
variable {C : Sc} {e : Expr} {a : Ex} {scope : Scope} {own : List (Str × Nat)} {drop cs' : List Nat} {iter elt tg : Expr} {g : Gx} {it : Ix} {pos : Pos} {ifs : List Expr} {c : Tx}
theorem x_lc (hi : PI C.X tg iter (C.I it)) (hb : InBlk C scope own cs' elt tg a g fun _ => True) (b : blkB C.X.N C.X.env.scope scope own drop C.cs cs' = true := by rfl) (hc : C.X.calm = true := by rfl) (hs : ∀ x, foldedSetIterable iter C.X.env x = pure x := by intro _; rfl) : PE C.X (.ListComp elt [⟨tg, iter, [], 0⟩] scope pos) (C.E (cLc drop a g it)) := se_lc hc (blkB_ok b) hi hs hb
theorem x_lcC (hi : PI C.X tg iter (C.I it)) (hb : InBlk C scope own cs' elt tg a g fun C' => PTs C'.X ifs (C'.T c)) (b : blkB C.X.N C.X.env.scope scope own drop C.cs cs' = true := by rfl) (hc : C.X.calm = true := by rfl) (hs : ∀ x, foldedSetIterable iter C.X.env x = pure x := by intro _; rfl) : PE C.X (.ListComp elt [⟨tg, iter, ifs, 0⟩] scope pos) (C.E (cLcC drop a g it c)) := se_lcC hc (blkB_ok b) hi hs hb
end
/-! ### calls -/
/-- what is known of a def, at a level -/
def DOk (P : Program) (w : World) (K : PySem.W.Frag) (mg : Str → Option Value) (base : Heap) (k : Nat) (G : Gv) (call : Call) (j : Nat) (d : He.DefD) (ps : List Str) : Prop :=
  ∃ fd, FunD K d.name d.qual d.params d.body d.scope (d.dvs K) (d.kws K) (He.fAd K d.at_) fd ∧ FD P w K mg base k G call j (He.fAd K d.at_) fd ps
/-- a call that hands in n values, by place -/
structure CallP (P : Program) (w : World) (K : PySem.W.Frag) (mg : Str → Option Value) (base : Heap) (k : Nat) (G : Gv) (call : Call) (x : Str) (j n : Nat) (pm : List PArg) : Prop where
  ex : ∃ (f : Addr) (fd : FuncData) (ps : List Str) (dds : List DV) (dvs : List V) (dsv : List Value), FD P w K mg base k G call j f fd ps ∧ mg x = some (.ref f) ∧ PySem.W.keepIn K (.ref f) = true ∧ Binds K fd ps dsv ∧ Vals dvs dsv ∧ Dfl G dds dvs ∧ pm = (List.range n).map .at_ ++ dds.map .dv
/-- .. and m values by name -/
structure CallK (P : Program) (w : World) (K : PySem.W.Frag) (mg : Str → Option Value) (base : Heap) (k : Nat) (G : Gv) (call : Call) (x : Str) (j n m : Nat) (ks : List Str) (pm : List PArg) : Prop where
  ex : ∃ (f : Addr) (fd : FuncData) (ps : List Str), FD P w K mg base k G call j f fd ps ∧ mg x = some (.ref f) ∧ PySem.W.keepIn K (.ref f) = true ∧ KBnd G K fd ps ks n m pm
section
variable {C : Sc} {e : Expr} {es : List Expr} {kws : List Keyword} {ts tk : Exs} {x : Str} {j n m : Nat} {pm : List PArg} {p pos : Pos} {call : Call} {ks : List Str}
theorem x_call (c : CallP C.X.prog C.X.w C.X.K C.X.mg C.X.base C.k C.G call x j n pm) (ha : PA C.X (e :: es) (C.Es n ts)) (hc : C.X.calm = true := by rfl) (hg : Gl C.X x := by rfl) (hdb : (x == ("__debug__" : Str)) = false := by rfl)
    (he : starEach (e :: es) C.X.env = (false, eval e C.X.env) :: starEach es C.X.env := by rfl) (hpl : (backTo pos (starEach es C.X.env)).any (·.1) = false := by rfl) : PE C.X (.Call (.Name x p) (e :: es) [] pos) (C.E (cCall call j pm ts)) := by
  obtain ⟨f, fd, ps, dds, dvs, dsv, h1, h2, h3, h4, h5, h6, h7⟩ := c.ex
  exact se_call hc h1 hg h2 h3 h4 h5 h6 h7 ha hdb he hpl
theorem x_call0 (c : CallP C.X.prog C.X.w C.X.K C.X.mg C.X.base C.k C.G call x j 0 pm) (hc : C.X.calm = true := by rfl) (hg : Gl C.X x := by rfl) (hdb : (x == ("__debug__" : Str)) = false := by rfl) : PE C.X (.Call (.Name x p) [] [] pos) (C.E (cCall call j pm cNil)) := by
  obtain ⟨f, fd, ps, dds, dvs, dsv, h1, h2, h3, h4, h5, h6, h7⟩ := c.ex
  exact se_call0 hc h1 hg h2 h3 h4 h5 h6 h7 hdb
theorem x_callK (c : CallK C.X.prog C.X.w C.X.K C.X.mg C.X.base C.k C.G call x j n m ks pm) (ha : PA C.X (e :: es) (C.Es n ts)) (hkw : PK C.X kws (C.Es m tk)) (hc : C.X.calm = true := by rfl) (hg : Gl C.X x := by rfl) (hall : (backToKw pos (keywordEach kws C.X.env)).all (·.1.isSome) = true := by rfl) (hks : (backToKw pos (keywordEach kws C.X.env)).filterMap (·.1) = ks := by rfl)
    (hdb : (x == ("__debug__" : Str)) = false := by rfl) (he : starEach (e :: es) C.X.env = (false, eval e C.X.env) :: starEach es C.X.env := by rfl)
    (hpl : ((backTo pos (starEach (e :: es) C.X.env)).any (·.1) || (backToKw pos (keywordEach kws C.X.env)).any (·.1.isNone)) = false := by rfl) :
    PE C.X (.Call (.Name x p) (e :: es) kws pos) (C.E (cCall call j pm (cApp ts tk))) := by
  obtain ⟨f, fd, ps, h1, h2, h3, h4⟩ := c.ex
  exact se_callK hc h1 hg h2 h3 h4 ha hkw hall hks hdb he hpl
theorem x_callK0 (c : CallK C.X.prog C.X.w C.X.K C.X.mg C.X.base C.k C.G call x j 0 m ks pm) (hkw : PK C.X kws (C.Es m tk)) (hc : C.X.calm = true := by rfl) (hg : Gl C.X x := by rfl) (hall : (backToKw pos (keywordEach kws C.X.env)).all (·.1.isSome) = true := by rfl) (hks : (backToKw pos (keywordEach kws C.X.env)).filterMap (·.1) = ks := by rfl)
    (hdb : (x == ("__debug__" : Str)) = false := by rfl) (hpl : ((backTo pos (starEach [] C.X.env)).any (·.1) || (backToKw pos (keywordEach kws C.X.env)).any (·.1.isNone)) = false := by rfl) :
    PE C.X (.Call (.Name x p) [] kws pos) (C.E (cCall call j pm tk)) := by
  obtain ⟨f, fd, ps, h1, h2, h3, h4⟩ := c.ex
  exact se_callK0 hc h1 hg h2 h3 h4 hkw hall hks hdb hpl
end
section
variable {P : Program} {w : World} {K : PySem.W.Frag} {mg : Str → Option Value} {base : Heap} {k j n m more : Nat} {G : Gv} {fns : Nat → FnD} {call : Call} {d : He.DefD} {ps N ks : List Str} {x : Str} {b : Call → Sx} {pm : List PArg} {ix : List Nat}
theorem dok_zero (F : ∃ fd, FunD K d.name d.qual d.params d.body d.scope (d.dvs K) (d.kws K) (He.fAd K d.at_) fd) : DOk P w K mg base k G (callK fns 0) j d ps := by
  obtain ⟨fd, F⟩ := F
  exact ⟨fd, F, FD.zero⟩
theorem DOk.mono {k' : Nat} (D : DOk P w K mg base k G call j d ps) (h : k ≤ k') : DOk P w K mg base k' G call j d ps := by
  obtain ⟨fd, F, D⟩ := D
  exact ⟨fd, F, D.mono h⟩
theorem DOk.imp {call' : Call} (D : DOk P w K mg base k G call j d ps) (h : ∀ ds dh kx kk, call' j ds dh kx kk = true → call j ds dh kx kk = true) : DOk P w K mg base k G call' j d ps := by
  obtain ⟨fd, F, D⟩ := D
  exact ⟨fd, F, D.imp h⟩
/-- a def, by its body; r: the room -/
theorem dok_gen {inner call' : Call} {r : Nat} (F : ∃ fd, FunD K d.name d.qual d.params d.body d.scope (d.dvs K) (d.kws K) (He.fAd K d.at_) fd) (S : FnScope N ps d.scope) (hK : G.K = K ∧ G.w = w) (hl : N.length = ps.length + more) (hj : ∀ ds dh kx kk, call' j ds dh kx kk = true → runFn inner (.body ps.length [] more b) ds dh kx kk = true)
    (hbody : ∀ (f : Addr) (A : Around) (outer : List Env) (s : Shared) (H : Hp) (E : XK) (cdv : Value) (n0 : Ent) (W : WX) (p : ScP G (fcx P w K mg base N d.qual d.scope f cdv A outer s H E) W r),
      PSs (mkSc G (fcx P w K mg base N d.qual d.scope f cdv A outer s H E) n0 [] W r p).X d.body ((mkSc G (fcx P w K mg base N d.qual d.scope f cdv A outer s H E) n0 [] W r p).S (b inner))) :
    DOk P w K mg base (r + 1) G call' j d ps := by
  obtain ⟨fd, F⟩ := F
  exact ⟨fd, F, fd_mk F S hK hl hj (hbody (He.fAd K d.at_))⟩
/-- .. in a table -/
theorem dok_mk {r : Nat} (hj : fns j = .body ps.length [] more b) (F : ∃ fd, FunD K d.name d.qual d.params d.body d.scope (d.dvs K) (d.kws K) (He.fAd K d.at_) fd) (S : FnScope N ps d.scope) (hK : G.K = K ∧ G.w = w) (hl : N.length = ps.length + more)
    (hbody : ∀ (f : Addr) (A : Around) (outer : List Env) (s : Shared) (H : Hp) (E : XK) (cdv : Value) (n0 : Ent) (W : WX) (p : ScP G (fcx P w K mg base N d.qual d.scope f cdv A outer s H E) W r),
      PSs (mkSc G (fcx P w K mg base N d.qual d.scope f cdv A outer s H E) n0 [] W r p).X d.body ((mkSc G (fcx P w K mg base N d.qual d.scope f cdv A outer s H E) n0 [] W r p).S (b (callK fns k)))) :
    DOk P w K mg base (r + 1) G (callK fns (k + 1)) j d ps :=
  dok_gen (inner := callK fns k) F S hK hl (fun ds dh kx kk h => by
    have e : callK fns (k + 1) j ds dh kx kk = runFn (callK fns k) (fns j) ds dh kx kk := rfl
    rw [e, hj] at h
    exact h) hbody
theorem callP (D : DOk P w K mg base k G call j d ps) (hm : mg x = some (.ref (He.fAd K d.at_))) (hd : d.dfl = []) (hn : ps.length = n) (hp : pm = (List.range n).map .at_)
    (h : ∀ (kV doc pm : Value) (an : Option Addr) (cdv ct : Value) (us : List Value), us.length = ps.length → bindArgs (PySem.W.fnOf d.name d.qual d.params d.body d.scope .none kV doc pm an cdv ct) ⟨us, []⟩ = pure (ps.zip us)) : CallP P w K mg base k G call x j n pm := by
  obtain ⟨fd, F, D⟩ := D
  have e : d.dvs K = [] := by unfold He.DefD.dvs; rw [hd]; rfl
  rw [e] at F
  exact ⟨_, fd, ps, [], [], [], D, hm, F.kp, F.bindsN h, .nil, fun _ _ => rels_nil.mpr rfl, by rw [hp]; simp⟩
/-- the last ones by their defaults: whole numbers -/
theorem callD {is : List Int} {q : Nat} (D : DOk P w K mg base k G call j d ps) (hm : mg x = some (.ref (He.fAd K d.at_))) (hd : d.dfl = is.map .int) (hi : is ≠ []) (hn : n + (is.length - q) = ps.length) (hp : pm = (List.range n).map .at_ ++ (is.drop q).map fun i => .dv (.int i))
    (h : ∀ (T : Addr) (kV doc pm : Value) (an : Option Addr) (cdv ct : Value) (us its : List Value), us.length = n → its.length = is.length → ∃ k, bindArgs (PySem.W.fnOf d.name d.qual d.params d.body d.scope (.ref T) kV doc pm an cdv ct) ⟨us, []⟩ = seqItems? (.ref T) >>= k ∧ k (some its.toArray) = pure (ps.zip (us ++ its.drop q))) : CallP P w K mg base k G call x j n pm := by
  obtain ⟨fd, F, D⟩ := D
  have e : d.dvs K = is.map V.int := by unfold He.DefD.dvs; rw [hd, List.map_map]; rfl
  rw [e] at F
  obtain ⟨ds, v, bb⟩ := F.binds1 n q (by simpa using hi) (by rw [List.length_map]; exact hn) fun T kV doc pm an cdv ct us its h1 h2 => h T kV doc pm an cdv ct us its h1 (by rw [h2, List.length_map])
  refine ⟨_, fd, ps, (is.drop q).map .int, _, ds, D, hm, F.kp, bb, v, fun ρ H => ?_, by rw [hp, List.map_map]; rfl⟩
  rw [← List.map_drop]
  generalize is.drop q = l
  induction l with
  | nil => exact rels_nil.mpr rfl
  | cons i r ih => exact rels_cons.mpr ⟨.int i, r.map V.int, rfl, rel_int.mpr rfl, ih⟩
/-! keywords: what stands at which place -/
def permV (ix : List Nat) (us : List Value) : List Value := ix.map fun i => us.getD i .none
theorem pick_ix : ∀ {ix : List Nat} {ds as : List DV}, pick (ix.map .at_) ds = some as → as.length = ix.length ∧ ∀ (q i : Nat), ix[q]? = some i → ∃ d, as[q]? = some d ∧ ds[i]? = some d
  | [], ds, as, h => by cases h; exact ⟨rfl, fun q i z => by simp at z⟩
  | i :: r, ds, as, h => by
    have h : onO none (nth ds i) (fun d => onO none (pick (r.map .at_) ds) fun q => some (d :: q)) = some as := h
    cases e1 : nth ds i with
    | none => rw [e1] at h; cases h
    | some d =>
      rw [e1] at h
      have h : onO none (pick (r.map .at_) ds) (fun q => some (d :: q)) = some as := h
      cases e2 : pick (r.map .at_) ds with
      | none => rw [e2] at h; cases h
      | some rs =>
        rw [e2] at h; cases h
        obtain ⟨h1, h2⟩ := pick_ix e2
        rw [nth_eq] at e1
        refine ⟨by simp [h1], fun q i' z => ?_⟩
        cases q with
        | zero => simp at z; subst z; exact ⟨d, rfl, e1⟩
        | succ q => exact h2 q i' (by simpa using z)
theorem perm_ok {ρ : List Loc} {H : Hp} {us : List Value} {vs : List V} {ds : List DV} (r : Vals vs us) (rd : RelDs G ρ H ds vs) : ∀ {ix : List Nat} {as : List DV}, pick (ix.map .at_) ds = some as → ∃ ws, Vals ws (permV ix us) ∧ RelDs G ρ H as ws
  | [], as, h => by cases h; exact ⟨[], .nil, rels_nil.mpr rfl⟩
  | i :: ix, as, h => by
    have h : onO none (nth ds i) (fun d => onO none (pick (ix.map .at_) ds) fun q => some (d :: q)) = some as := h
    cases e1 : nth ds i with
    | none => rw [e1] at h; cases h
    | some d =>
      rw [e1] at h
      have h : onO none (pick (ix.map .at_) ds) (fun q => some (d :: q)) = some as := h
      cases e2 : pick (ix.map .at_) ds with
      | none => rw [e2] at h; cases h
      | some rs =>
        rw [e2] at h; cases h
        rw [nth_eq] at e1
        obtain ⟨v, k1, k2⟩ := rels_get rd e1
        obtain ⟨ws, k3, k4⟩ := perm_ok r rd e2
        obtain ⟨u, k5, k6⟩ := r.get k1
        refine ⟨v :: ws, ?_, rels_cons.mpr ⟨v, ws, rfl, k2, k4⟩⟩
        show Vals (v :: ws) (us.getD i .none :: permV ix us)
        rw [List.getD_eq_getElem?_getD, k5]
        exact .cons k6 k3
theorem callKw (D : DOk P w K mg base k G call j d ps) (hm : mg x = some (.ref (He.fAd K d.at_))) (hd : d.dfl = []) (hp : pm = ix.map .at_)
    (h : ∀ (kV doc pm : Value) (an : Option Addr) (cdv ct : Value) (us ws : List Value), us.length = n → ws.length = m → bindArgs (PySem.W.fnOf d.name d.qual d.params d.body d.scope .none kV doc pm an cdv ct) ⟨us, ks.zip ws⟩ = pure (ps.zip (permV ix (us ++ ws)))) : CallK P w K mg base k G call x j n m ks pm := by
  obtain ⟨fd, F, D⟩ := D
  have e : d.dvs K = [] := by unfold He.DefD.dvs; rw [hd]; rfl
  rw [e] at F
  refine ⟨_, fd, ps, D, hm, F.kp, fun s us ws vs zs ds es as ρ H hK h1 h2 r1 r2 d1 d2 hpk _ => ?_⟩
  subst hp
  obtain ⟨us', k1, k2⟩ := perm_ok (r1.append r2) (rels_app d1 d2) hpk
  refine ⟨_, us', ?_, k1, k2⟩
  obtain ⟨oc, od, dV, kV, doc, pm, an, cdv, ct, osl, rfl, lk, hcd, hD, _⟩ := F.ex
  rcases hD with ⟨_, rfl⟩ | ⟨z, _⟩
  · exact .of_eq (h kV doc pm an cdv ct us ws (by rw [← r1.length, ← rels_length d1]; exact h1) (by rw [← r2.length, ← rels_length d2]; exact h2))
  · exact absurd rfl z
end
end Dz

set_option Elab.async false
set_option linter.all false
set_option maxRecDepth 100000
set_option maxHeartbeats 4000000
/-! Dz: x = [.. for ..] on one line, x a plain local: the store stands ahead of the block's end. -/
namespace Dz
open PySem L2 PySem.Spec PyProof.Rows
section
variable {X : Cx} {i : Nat} {y : Str} {py pos spos : Pos} {elt tg iter : Expr} {ifs : List Expr} {scope : Scope} {own : List (Str × Nat)} {wi : TI}
theorem ps_setG (hc : X.calm = true) (hN : X.N.Nodup) (hy : X.N[i]? = some y) (hyl : X.env.scope.names.lookup y = some .local) (hi : PI X tg iter wi) (ok : BlkOk X.N X.env.scope scope own)
    (hsw : swapsWith (.ListComp elt [⟨tg, iter, ifs, 0⟩] scope pos) (some (.Name y py)) spos.line X.env = pure true) (hs : ∀ x, foldedSetIterable iter X.env x = pure x) :
    PS X (.Assign [.Name y py] (.ListComp elt [⟨tg, iter, ifs, 0⟩] scope pos) spos) (tAsg (tLcG X wi scope own elt tg ifs) (gName i)) := by
  constructor
  intro pins s σ H D I h
  have h' : tLcG X wi scope own elt tg ifs σ H (fun x H1 => gName i x σ H1 D.nx) := h
  rw [exec_Assign_Name_used y py _ spos hsw]
  apply wpAny_bind
  apply wpAny_standAt
  apply wpAny_bind
  change wpAny _ X.A (do
    let _ ← comprehension (.ListComp elt [⟨tg, iter, ifs, 0⟩] scope pos) scope X.env (firstIterPos [⟨tg, iter, ifs, 0⟩] pos) (newList []) false
      (eval iter X.env) (some (assign (.Name y py) X.env))) _ _ s
  apply wpAny_bind
  refine thn (Q := fun _ s' => SP X pins D .next s') (lc_gen (Qf := fun _ s' => SP X pins D .next s') hc hN I hi ok hs h' ?_) (fun _ s' z => wpAny_pure (wpAny_pure z))
  intro L T1 s1 m H1 I1 z hn f
  change wpAny _ _ (assign (.Name y py) X.env (.ref L)) _ _ _
  apply wpAny_assign_Name
  refine store_ok2 (v := V.ref L) I1 hN hy (.inl hyl) rfl ?_ (.inr hyl)
  intro s2 I2 ⟨a, sb, ha⟩
  obtain ⟨f0, f1, f2, f3, f4, f5⟩ := f
  have ne : T1 ≠ a := ha.elim (fun e => e ▸ f1) (fun e w => f4 y a e w.symm)
  exact ⟨m, hn.sameBut sb ne, fun _ sb3 => ⟨_, H1, I2.turned (t' := s2.toks) (fun b o hb e => (sb3.2 b hb).trans e) f0 f1 f3 f4 f5, z⟩⟩
end
section
variable {C : Sc} {i : Nat} {y : Str} {py pos spos : Pos} {elt tg iter : Expr} {ifs : List Expr} {scope : Scope} {own : List (Str × Nat)} {drop cs' ss : List Nat} {a : Ex} {g : Gx} {it : Ix} {c : Tx}
/-- the whole, by what the list is -/
theorem set_S {l : Ex} (h : PS C.X (.Assign [.Name y py] (.ListComp elt [⟨tg, iter, ifs, 0⟩] scope pos) spos) (tAsg (tLcG C.X (C.I it) scope own elt tg ifs) (gName i))) (hi : ∀ σ H Q, C.E l σ H Q → tLcG C.X (C.I it) scope own elt tg ifs σ H Q) (hc : i ∉ C.cs) :
    PS C.X (.Assign [.Name y py] (.ListComp elt [⟨tg, iter, ifs, 0⟩] scope pos) spos) (C.S (sAsg (gNm i) l)) := ps_imp h fun D σ H ⟨ρ, dh, fr, nx, rt, ex, bk, ct, st, kn, kr, ke, kb, kc, h⟩ => by
  refine hi σ H _ (E_then st ke.xo h fun ρ1 dh1 H1 d v st1 le1 r1 h1 => ?_)
  exact kn ρ1 dh1 _ _ H1 (st_name st1 hc r1) le1 h1
theorem z_lc (hi : PI C.X tg iter (C.I it)) (hb : InBlk C scope own cs' elt tg a g fun _ => True) (b : blkB C.X.N C.X.env.scope scope own drop C.cs cs' = true := by rfl) (hc : C.X.calm = true := by rfl) (hs : ∀ x, foldedSetIterable iter C.X.env x = pure x := by intro _; rfl)
    (hy : C.X.N[i]? = some y := by rfl) (hyl : locO (C.X.env.scope.names.lookup y) = true := by rfl) (hcs : List.elem i C.cs = false := by rfl) (hk : C.X.env.scope.kind = .function := by rfl) (hl : (py.line == pos.line) = true := by rfl)
    (ha : (scope.names.any fun (n, k) => n == y && (k == .local || k == .cell)) = false := by rfl) :
    PS C.X (.Assign [.Name y py] (.ListComp elt [⟨tg, iter, [], 0⟩] scope pos) spos) (C.S (sAsg (gNm i) (cLc drop a g it))) :=
  set_S (ps_setG hc C.hN hy (locO_ok hyl) hi (blkB_ok b).ok (sw_true hk (locO_ok hyl) hl ha) hs) (lc_imp hc (blkB_ok b) hb) (nin hcs)
theorem z_lcC (hi : PI C.X tg iter (C.I it)) (hb : InBlk C scope own cs' elt tg a g fun C' => PTs C'.X ifs (C'.T c)) (b : blkB C.X.N C.X.env.scope scope own drop C.cs cs' = true := by rfl) (hc : C.X.calm = true := by rfl) (hs : ∀ x, foldedSetIterable iter C.X.env x = pure x := by intro _; rfl)
    (hy : C.X.N[i]? = some y := by rfl) (hyl : locO (C.X.env.scope.names.lookup y) = true := by rfl) (hcs : List.elem i C.cs = false := by rfl) (hk : C.X.env.scope.kind = .function := by rfl) (hl : (py.line == pos.line) = true := by rfl)
    (ha : (scope.names.any fun (n, k) => n == y && (k == .local || k == .cell)) = false := by rfl) :
    PS C.X (.Assign [.Name y py] (.ListComp elt [⟨tg, iter, ifs, 0⟩] scope pos) spos) (C.S (sAsg (gNm i) (cLcC drop a g it c))) :=
  set_S (ps_setG hc C.hN hy (locO_ok hyl) hi (blkB_ok b).ok (sw_true hk (locO_ok hyl) hl ha) hs) (lcC_imp hc (blkB_ok b) hb) (nin hcs)
end
end Dz

set_option Elab.async false
set_option linter.all false
set_option maxRecDepth 100000
set_option maxHeartbeats 4000000
/-! Dz: promises told otherwise: a pot by its two numbers (draws); what a call has made and nobody holds, forgotten; a call over less data. -/
namespace Dz
open PySem L2
section
variable {G : Gv} {ρ ρ' : List Loc} {H H' : Hp} {h : Heap} {fs : List Addr} {dh dh' : DH}
theorem EntR.plain (e : EntR G h fs ρ H dh) : Plain H ρ := fun a ha => by
  obtain ⟨i, hi⟩ := List.mem_iff_getElem?.mp ha
  obtain ⟨o, _, q⟩ := e.obj i _ hi
  have z : ∃ u, H a = some u ∧ (∀ xs, u ≠ .tup xs) ∧ ∀ o u', u ≠ .frz o u' := by
    cases o with
    | lst ys => obtain ⟨a', vs, e, q, _⟩ := q; cases e; exact ⟨_, q, (fun _ z => nomatch z), (fun _ _ z => nomatch z)⟩
    | dic kvs =>
      obtain ⟨a', e, q⟩ := q; cases e
      rcases q with ⟨ks, _, q, _⟩ | ⟨ks, q, _⟩
      · exact ⟨_, q, (fun _ z => nomatch z), (fun _ _ z => nomatch z)⟩
      · exact ⟨_, q, (fun _ z => nomatch z), (fun _ _ z => nomatch z)⟩
    | cell od => obtain ⟨a', ov, e, _⟩ := q; cases e
    | pot => obtain ⟨a', x, y, e, q, _⟩ := q; cases e; exact ⟨_, q, (fun _ z => nomatch z), (fun _ _ z => nomatch z)⟩
    | busy kvs => obtain ⟨a', e, xs, vs, q, _⟩ := q; cases e; exact ⟨_, q, (fun _ z => nomatch z), (fun _ _ z => nomatch z)⟩
  obtain ⟨u, e, n1, n2⟩ := z
  refine ⟨⟨fun xs r => ?_, by rw [e]; simp⟩, fun ob u' z => n2 ob u' (Option.some.inj (e.symm.trans z))⟩
  rcases r with r | ⟨ob, r⟩
  · rw [e] at r; exact n1 xs (Option.some.inj r)
  · rw [e] at r; exact n2 _ _ (Option.some.inj r)
/-! ### one object told otherwise -/
theorem get_putX (d : DH) (i j : Nat) (o : DObj) : (d.put i o).get j = if j = i then some o else d.get j := by
  by_cases e : j = i
  · subst e; rw [if_pos rfl]; exact get_put_same _ _ _
  · rw [if_neg e]; exact get_put_ne _ _ e
theorem ent_pot {i : Nat} {a : Addr} {x y : Int} (e : EntR G h fs ρ H dh) (hi : ρ[i]? = some (.ob a)) (ha : H a = some (.lst [.int x, .int y])) : EntR G h fs ρ H (dh.put i (.lst [.int x, .int y])) := by
  refine ⟨e.len, e.nd, fun j l hj => ?_, e.tabs⟩
  rw [get_putX]
  by_cases z : j = i
  · subst z
    rw [hi] at hj; cases hj
    rw [if_pos rfl]
    exact ⟨_, rfl, a, _, rfl, ha, rels_cons.mpr ⟨_, _, rfl, rel_int.mpr rfl, rels_cons.mpr ⟨_, [], rfl, rel_int.mpr rfl, rels_nil.mpr rfl⟩⟩⟩
  · rw [if_neg z]
    exact e.obj j l hj
theorem out_pot {i : Nat} {x y x' y' : Int} (o : Out G ρ (dh.put i (.lst [.int x, .int y])) H ρ' dh' H') (hp : dh.get i = some .pot) (hi : i < ρ.length) (e : dh' = (dh.put i (.lst [.int x, .int y])).put i (.lst [.int x', .int y'])) (h0 : PotOk x' y') : Out G ρ dh H ρ' dh H' := by
  subst e
  have g : ∀ j, j ≠ i → ((dh.put i (.lst [.int x, .int y])).put i (.lst [.int x', .int y'])).get j = dh.get j := fun j n => by rw [get_put_ne _ _ n, get_put_ne _ _ n]
  refine ⟨o.le, o.len, o.nd, fun j l hj => ?_, o.tabs, fun j hj od q => q⟩
  obtain ⟨ob, q1, q2⟩ := o.obj j l hj
  by_cases z : j = i
  · subst z
    rw [get_put_same] at q1; cases q1
    refine ⟨_, hp, ?_⟩
    obtain ⟨a, vs, h1, h2, h3⟩ := q2
    obtain ⟨v, w, rfl, r1, r2⟩ := rels2 h3
    rw [rel_int] at r1 r2; subst r1 r2
    exact ⟨a, x', y', h1, h2, h0⟩
  · rw [g j z] at q1
    refine ⟨ob, q1, ?_⟩
    cases ob with
    | lst xs => exact q2
    | dic xs => exact q2
    | pot => exact q2
    | busy xs => exact q2
    | cell od =>
      rcases q2 with ⟨h1, h2⟩ | q2
      · rw [get_put_ne _ _ z] at h2
        exact .inl ⟨h1, h2⟩
      · exact .inr q2
end
/-! ### draws -/
theorem upTo_all {n : Nat} {p : Nat → Bool} : upTo n p = true ↔ ∀ i, i < n → p i = true := by
  induction n with
  | zero => exact ⟨fun _ i z => absurd z (by omega), fun _ => rfl⟩
  | succ n ih =>
    have e : upTo (n + 1) p = cnd (p n) (upTo n p) false := rfl
    rw [e]
    constructor
    · intro q
      obtain ⟨q1, q2⟩ := cnd_and q
      intro i hi
      rcases Nat.lt_or_eq_of_le (Nat.le_of_lt_succ hi) with z | z
      · exact ih.mp q2 i z
      · rw [z]; exact q1
    · intro q
      rw [q n (Nat.lt_succ_self n)]
      exact ih.mpr fun i hi => q i (Nat.lt_succ_of_lt hi)
/-- what a draw's body wants -/
def DrawB (call : Call) (j : Nat) : Prop := ∀ (dh : DH) (i : Nat) (x y n : Int) (kx : KX) (kk : KV), dh.get i = some (.lst [.int x, .int y]) → PotOk x y → 0 < n → n < 2 ^ 62 →
  (∀ x' y' d : Int, PotOk x' y' → 0 ≤ d → d < n → kk (.int d) (dh.put i (.lst [.int x', .int y'])) = true) → call j [.ref i, .int n] dh kx kk = true
section
open Classical
variable {P : Program} {w : World} {K : PySem.W.Frag} {mg : Str → Option Value} {base : Heap} {k j : Nat} {G : Gv} {f : Addr} {fd : FuncData} {ps : List Str} {call call' : Call}
theorem drawN_of {ds : List DV} {dh : DH} {kx : KX} {kk : KV} (h : drawN ds dh kx kk = true) : ∃ (i : Nat) (n : Int), ds = [.ref i, .int n] ∧ dh.get i = some .pot ∧ 0 < n ∧ n < 2 ^ 62 ∧ ∀ d : Nat, (d : Int) < n → kk (.int d) dh = true := by
  cases ds with
  | nil => cases h
  | cons p r =>
    obtain ⟨i, rfl, h⟩ := onR_of (show onR false p (fun i => arg1 false r fun m => onI false m fun n => obP false (dh.get i) (cnd (intLt 0 n) (cnd (small62 n) (upTo n.toNat fun d => kk (.int (.ofNat d)) dh) false) false)) = true from h)
    cases r with
    | nil => cases h
    | cons m s =>
      obtain ⟨e, h⟩ := cnd_and (show cnd (nilB s) (onI false m fun n => obP false (dh.get i) (cnd (intLt 0 n) (cnd (small62 n) (upTo n.toNat fun d => kk (.int (.ofNat d)) dh) false) false)) false = true from h)
      have := nilB_true e; subst this
      obtain ⟨n, rfl, h⟩ := onI_of h
      obtain ⟨hp, h⟩ := obP_of h
      obtain ⟨hn, h⟩ := cnd_and h
      obtain ⟨hs, h⟩ := cnd_and h
      rw [intLt_iff, decide_eq_true_iff] at hn
      exact ⟨i, n, rfl, hp, hn, (small_of hs).2, fun d hd => upTo_all.mp h d (by omega)⟩
/-- draws: all values up to the bound -/
theorem fd_draw (F : FD P w K mg base k G call j f fd ps) (hb : DrawB call j) (hl : ps.length = 2) (hc : ∀ ds dh kx kk, call' j ds dh kx kk = true → drawN ds dh kx kk = true) : FD P w K mg base k G call' j f fd ps := by
  refine ⟨fun ds dh kx kk q => ?_, fun A outer s H args us vs Q E ρ dh ds kx kk hr hg e0 hbd r er rd ke kxx q => ?_⟩
  · obtain ⟨i, n, rfl, _⟩ := drawN_of (hc _ _ _ _ q)
    rw [hl]; rfl
  · obtain ⟨i, n, rfl, hp, hn, hn2, hk⟩ := drawN_of (hc _ _ _ _ q)
    have hi : ∃ l, ρ[i]? = some l := by
      obtain ⟨v, w, rfl, r1, _⟩ := rels2 rd
      obtain ⟨a, _, ea⟩ := rel_ref.mp r1
      exact ⟨_, ea⟩
    obtain ⟨l, hi⟩ := hi
    obtain ⟨o, o1, o2⟩ := er.obj i l hi
    rw [hp] at o1; cases o1
    obtain ⟨a, x, y, rfl, ha, hx⟩ := o2
    have er1 := ent_pot er hi ha
    refine F.run A outer s H args us vs Q E ρ _ _ noX (fun d h => decide (∃ x' y' z : Int, PotOk x' y' ∧ 0 ≤ z ∧ z < n ∧ d = .int z ∧ h = (dh.put i (.lst [.int x, .int y])).put i (.lst [.int x', .int y']))) hr hg e0 hbd r er1 rd ?_ ?_ ?_
    · intro ρ' dh' H' d v o rv qq
      obtain ⟨x', y', z, z1, z2, z3, rfl, z4⟩ := of_decide_eq_true qq
      have o' := out_pot o hp (List.getElem?_eq_some_iff.mp hi).1 z4 z1
      refine ke ρ' dh H' _ v o' rv ?_
      have := hk z.toNat (by omega)
      rwa [Int.toNat_of_nonneg z2] at this
    · exact fun ρ' dh' H' c fs cls dx o rx qq => (Bool.false_ne_true qq).elim
    · refine hb _ i x y n _ _ (get_put_same _ _ _) hx hn hn2 fun x' y' d h1 h2 h3 => decide_eq_true ⟨x', y', d, h1, h2, h3, rfl, rfl⟩
theorem dok_draw {d : He.DefD} (D : DOk P w K mg base k G call j d ps) (hb : DrawB call j) (hl : ps.length = 2) (hc : ∀ ds dh kx kk, call' j ds dh kx kk = true → drawN ds dh kx kk = true) : DOk P w K mg base k G call' j d ps := by
  obtain ⟨fd, F, D⟩ := D
  exact ⟨fd, F, fd_draw D hb hl hc⟩
theorem tab_body {fns : Nat → FnD} {q np more : Nat} {b : Call → Sx} (hj : fns j = .body np [] more b) (ds : List DV) (dh : DH) (kx : KX) (kk : KV) (h : callK fns (q + 1) j ds dh kx kk = true) : runFn (callK fns q) (.body np [] more b) ds dh kx kk = true := by
  have e : callK fns (q + 1) j ds dh kx kk = runFn (callK fns q) (fns j) ds dh kx kk := rfl
  rw [e, hj] at h
  exact h
end
end Dz

set_option Elab.async false
set_option linter.all false
set_option maxRecDepth 100000
set_option maxHeartbeats 4000000
/-! Dz: what a call has made and nobody holds is forgotten; a law's right as a promise. -/
namespace Dz
open PySem L2
section
variable {G : Gv} {ρ ρ' ρ2 : List Loc} {H H' : Hp}
/-- what was told of known places alone, told again so -/
structure Pre (ρ ρ' ρ2 : List Loc) : Prop where
  a : ∀ i, i < ρ.length → ∀ l, ρ'[i]? = some l → ρ2[i]? = some l
theorem lt_of_get {α : Type} {xs : List α} {i : Nat} {a : α} (h : xs[i]? = some a) : i < xs.length := (List.getElem?_eq_some_iff.mp h).1
mutual
theorem RelD.shrink (p : Pre ρ ρ' ρ2) : ∀ {d : DV} {v v' : V}, RelD G ρ H d v → RelD G ρ' H' d v' → RelD G ρ2 H' d v'
  | .non, v, v', _, h => rel_non.mpr (rel_non.mp h)
  | .bl b, v, v', _, h => rel_bl.mpr (rel_bl.mp h)
  | .int i, v, v', _, h => rel_int.mpr (rel_int.mp h)
  | .str x, v, v', _, h => rel_str.mpr (rel_str.mp h)
  | .tup xs, v, v', h0, h => by
    obtain ⟨_, vs0, _, _, r0⟩ := rel_tup.mp h0
    obtain ⟨a, vs, e, s, r⟩ := rel_tup.mp h
    exact rel_tup.mpr ⟨a, vs, e, s, RelDs.shrink p r0 r⟩
  | .ref i, v, v', h0, h => by
    obtain ⟨_, _, r0⟩ := rel_ref.mp h0
    obtain ⟨a, e, r⟩ := rel_ref.mp h
    exact rel_ref.mpr ⟨a, e, p.a i (lt_of_get r0) _ r⟩
  | .fn k caps, v, v', h0, h => by
    obtain ⟨_, _, r0⟩ := rel_fn.mp h0
    obtain ⟨a, e, r⟩ := rel_fn.mp h
    refine rel_fn.mpr ⟨a, e, ?_⟩
    rcases r with r | ⟨L, cl, c, h1, h2, h3, h4, h5, h6⟩
    · exact .inl r
    · refine .inr ⟨L, cl, c, h1, h2, h3, h4, h5, fun i y b e => ?_⟩
      obtain ⟨j, e1, e2⟩ := h6 i y b e
      refine ⟨j, e1, p.a j ?_ _ e2⟩
      rcases r0 with ⟨z, _⟩ | ⟨L0, cl0, c0, g1, g2, g3, g4, g5, g6⟩
      · rw [z] at e1; simp at e1
      · have hi : i < cl0.length := by rw [← g5]; exact lt_of_get e1
        obtain ⟨j0, e3, e4⟩ := g6 i _ _ (List.getElem?_eq_getElem hi)
        rw [e1] at e3; cases e3
        exact lt_of_get e4
  | .exn _ _, _, _, h, _ => absurd h rel_exn
  | .cl _, _, _, _, h => rel_cl.mpr (rel_cl.mp h)
theorem RelDs.shrink (p : Pre ρ ρ' ρ2) : ∀ {ds : List DV} {vs vs' : List V}, RelDs G ρ H ds vs → RelDs G ρ' H' ds vs' → RelDs G ρ2 H' ds vs'
  | [], vs, vs', _, h => rels_nil.mpr (rels_nil.mp h)
  | x :: xs, vs, vs', h0, h => by
    obtain ⟨v0, r0, _, k1, k2⟩ := rels_cons.mp h0
    obtain ⟨v, r, e, r1, r2⟩ := rels_cons.mp h
    exact rels_cons.mpr ⟨v, r, e, RelD.shrink p k1 r1, RelDs.shrink p k2 r2⟩
end
theorem DicN.shrink (p : Pre ρ ρ' ρ2) {a a' : Addr} {kvs : List DP} (h0 : DicN G ρ H a kvs) (h : DicN G ρ' H' a' kvs) : DicN G ρ2 H' a' kvs := by
  obtain ⟨xs0, vs0, _, _, h3, h4, _⟩ := h0
  obtain ⟨xs, vs, k1, k2, k3, k4, k5⟩ := h
  exact ⟨xs, vs, k1, k2, RelDs.shrink p h3 k3, RelDs.shrink p h4 k4, k5⟩
theorem DicAt.shrink (p : Pre ρ ρ' ρ2) {a a' : Addr} {kvs : List DP} (h0 : DicAt G ρ H a kvs) (h : DicAt G ρ' H' a' kvs) : DicAt G ρ2 H' a' kvs := by
  have r0 : ∃ vs, RelDs G ρ H (kvs.map (·.2)) vs := by
    rcases h0 with ⟨ks, _, _, _, r⟩ | ⟨ks, _, _, r⟩
    · exact ⟨_, r⟩
    · exact ⟨_, r⟩
  obtain ⟨vs, r0⟩ := r0
  rcases h with ⟨ks, h0, h1, h2, r⟩ | ⟨ks, h1, h2, r⟩
  · exact .inl ⟨ks, h0, h1, h2, RelDs.shrink p r0 r⟩
  · exact .inr ⟨ks, h1, h2, RelDs.shrink p r0 r⟩
/-- old objects as they were -/
structure Ext (dh dh' : DH) : Prop where
  le : dh.n ≤ dh'.n
  same : ∀ i, i < dh.n → dh'.get i = dh.get i
theorem Ext.refl (dh : DH) : Ext dh dh := ⟨Nat.le_refl _, fun _ _ => rfl⟩
variable {h : Heap} {fs : List Addr} {dh dh' : DH}
theorem out_cut (e : EntR G h fs ρ H dh) (x : Ext dh dh') (o : Out G ρ dh H ρ' dh' H') : Out G ρ dh H ρ dh H' := by
  obtain ⟨m, em, fm⟩ := o.le.pre
  have p : Pre ρ ρ' ρ := ⟨fun i hi l q => by rw [em, List.getElem?_append_left hi] at q; exact q⟩
  refine ⟨⟨⟨[], by simp, fun _ z => absurd z (by simp)⟩, o.le.keep, o.le.there, o.le.cells, o.le.lams, o.le.codes⟩, e.len, e.nd, fun i l q => ?_, o.tabs, fun i hi ob q => q⟩
  have hi := lt_of_get q
  obtain ⟨ob, g1, g2⟩ := e.obj i l q
  obtain ⟨ob', k1, k2⟩ := o.obj i l (o.le.at q)
  rw [x.same i (by rw [e.len]; exact hi), g1] at k1
  cases k1
  refine ⟨ob, g1, ?_⟩
  cases ob with
  | lst ys =>
    obtain ⟨_, vs0, _, _, r0⟩ := g2
    obtain ⟨a, vs, h1, h2, r⟩ := k2
    exact ⟨a, vs, h1, h2, RelDs.shrink p r0 r⟩
  | dic kvs =>
    obtain ⟨_, _, r0⟩ := g2
    obtain ⟨a, h1, r⟩ := k2
    exact ⟨a, h1, DicAt.shrink p r0 r⟩
  | cell od => exact .inl ⟨hi, g1⟩
  | pot => exact k2
  | busy kvs =>
    obtain ⟨_, _, r0⟩ := g2
    obtain ⟨a, h1, r⟩ := k2
    exact ⟨a, h1, DicN.shrink p r0 r⟩
/-- a new list that nothing of the old data knows -/
theorem out_add (o : Out G ρ dh H ρ dh H') {a : Addr} {vs : List V} {xs : List DV} (h0 : H a = none) (ha : H' a = some (.lst vs)) (hn : Loc.ob a ∉ ρ) (r : RelDs G (ρ ++ [.ob a]) H' xs vs) : Out G ρ dh H (ρ ++ [.ob a]) (dh.new (.lst xs)) H' := by
  have w : Lw ρ H' (ρ ++ [.ob a]) H' := ⟨fun _ _ h => h, fun _ _ _ _ h => h, fun _ _ h => h, fun i l z => by rw [List.getElem?_append_left (lt_of_get z)]; exact z, fun _ _ _ h => h⟩
  refine ⟨⟨⟨[.ob a], rfl, fun c z => ?_⟩, o.le.keep, o.le.there, o.le.cells, o.le.lams, o.le.codes⟩, ?_, fun i j l e1 e2 => ?_, fun i l e => ?_, o.tabs, fun i hi ob q => ?_⟩
  · have : c = a := by simpa using z
    rw [this]; exact h0
  · rw [new_n, o.len]; simp
  · rcases get_snoc e1 with e1 | ⟨i1, a1⟩ <;> rcases get_snoc e2 with e2 | ⟨i2, a2⟩
    · exact o.nd i j l e1 e2
    · rw [a2] at e1; exact absurd (List.mem_of_getElem? e1) hn
    · rw [a1] at e2; exact absurd (List.mem_of_getElem? e2) hn
    · rw [i1, i2]
  · rcases get_snoc e with e | ⟨e1, e2⟩
    · obtain ⟨u, h1, h2⟩ := o.obj i l e
      refine ⟨u, by rw [get_new_ne _ _ (by have := lt_of_get e; rw [o.len]; omega)]; exact h1, ?_⟩
      cases u with
      | lst ys => obtain ⟨b, ws, k1, k2, k3⟩ := h2; exact ⟨b, ws, k1, k2, RelDs.lw w k3⟩
      | dic kvs => obtain ⟨b, k1, k2⟩ := h2; exact ⟨b, k1, k2.lw w fun _ z => z⟩
      | cell od =>
        rcases h2 with h2 | ⟨b, ov, k1, k2, k3⟩
        · exact .inl h2
        · refine .inr ⟨b, ov, k1, k2, fun d hd => ?_⟩
          obtain ⟨v, z1, z2⟩ := k3 d hd
          exact ⟨v, z1, RelD.lw w z2⟩
      | pot => exact h2
      | busy kvs => obtain ⟨b, k1, k2⟩ := h2; exact ⟨b, k1, k2.lw w fun _ z => z⟩
    · subst e1; subst e2
      exact ⟨.lst xs, by rw [← o.len]; exact get_new_same dh _, a, vs, rfl, ha, r⟩
  · rw [get_new_ne _ _ (by rw [o.len]; omega)]; exact q
end
/-! ### data that name no place -/
def flatB : DV → Bool
  | .non => true
  | .bl _ => true
  | .int _ => true
  | .str _ => true
  | _ => false
theorem flat_rel {G : Gv} {ρ ρ' : List Loc} {H : Hp} {d : DV} {v : V} (f : flatB d = true) (r : RelD G ρ H d v) : RelD G ρ' H d v := by
  cases d with
  | non => exact rel_non.mpr (rel_non.mp r)
  | bl b => exact rel_bl.mpr (rel_bl.mp r)
  | int i => exact rel_int.mpr (rel_int.mp r)
  | str x => exact rel_str.mpr (rel_str.mp r)
  | _ => cases f
theorem flat_rels {G : Gv} {ρ ρ' : List Loc} {H : Hp} : ∀ {xs : List DV} {vs : List V}, xs.all flatB = true → RelDs G ρ H xs vs → RelDs G ρ' H xs vs
  | [], vs, _, r => rels_nil.mpr (rels_nil.mp r)
  | x :: xs, vs, f, r => by
    rw [List.all_cons, Bool.and_eq_true] at f
    obtain ⟨v, us, e, r1, r2⟩ := rels_cons.mp r
    exact rels_cons.mpr ⟨v, us, e, flat_rel f.1 r1, flat_rels f.2 r2⟩
section
open Classical
variable {P : Program} {w : World} {K : PySem.W.Frag} {mg : Str → Option Value} {base : Heap} {k j : Nat} {G : Gv} {f : Addr} {fd : FuncData} {ps : List Str} {call call' : Call} {d : He.DefD}
/-- a call that answers a plain value, the data as they were -/
def Plainly (call call' : Call) (j : Nat) : Prop := ∀ (ds : List DV) (dh : DH) (kx : KX) (kk : KV), call' j ds dh kx kk = true → ∃ r : DV, flatB r = true ∧ kk r dh = true ∧ ∀ kk' : KV, (∀ dh', Ext dh dh' → kk' r dh' = true) → call j ds dh noX kk' = true
/-- a call that answers a new list of plain values -/
def Freshly (call call' : Call) (j : Nat) : Prop := ∀ (ds : List DV) (dh : DH) (kx : KX) (kk : KV), call' j ds dh kx kk = true → ∃ xs : List DV, xs.all flatB = true ∧ kk (.ref dh.n) (dh.new (.lst xs)) = true ∧ ∀ kk' : KV, (∀ dh', Ext dh dh' → dh'.get dh.n = some (.lst xs) → kk' (.ref dh.n) dh' = true) → call j ds dh noX kk' = true
theorem no_exc {ρ : List Loc} {dh : DH} {H : Hp} {E : XK} : KExc G ρ dh H noX E := fun _ _ _ _ _ _ _ _ _ q => (Bool.false_ne_true q).elim
theorem FD.plainly (F : FD P w K mg base k G call j f fd ps) (h : Plainly call call' j) : FD P w K mg base k G call' j f fd ps := by
  refine ⟨fun ds dh kx kk q => ?_, fun A outer s H args us vs Q E ρ dh ds kx kk hr hg e0 hbd r er rd ke kxx q => ?_⟩
  · obtain ⟨v, _, _, hb⟩ := h _ _ _ _ q
    exact F.len ds dh noX (fun _ _ => true) (hb _ fun _ _ => rfl)
  · obtain ⟨v, hf, hk, hb⟩ := h _ _ _ _ q
    refine F.run A outer s H args us vs Q E ρ dh ds noX (fun d h => decide (d = v ∧ Ext dh h)) hr hg e0 hbd r er rd ?_ no_exc (hb _ fun dh' x => decide_eq_true ⟨rfl, x⟩)
    intro ρ' dh' H' d u o ru qq
    obtain ⟨rfl, x⟩ := of_decide_eq_true qq
    exact ke ρ dh H' _ u (out_cut er x o) (flat_rel hf ru) hk
theorem FD.freshly (F : FD P w K mg base k G call j f fd ps) (h : Freshly call call' j) : FD P w K mg base k G call' j f fd ps := by
  refine ⟨fun ds dh kx kk q => ?_, fun A outer s H args us vs Q E ρ dh ds kx kk hr hg e0 hbd r er rd ke kxx q => ?_⟩
  · obtain ⟨v, _, _, hb⟩ := h _ _ _ _ q
    exact F.len ds dh noX (fun _ _ => true) (hb _ fun _ _ _ => rfl)
  · obtain ⟨xs, hf, hk, hb⟩ := h _ _ _ _ q
    refine F.run A outer s H args us vs Q E ρ dh ds noX (fun d h => decide (d = .ref dh.n ∧ Ext dh h ∧ h.get dh.n = some (.lst xs))) hr hg e0 hbd r er rd ?_ no_exc (hb _ fun dh' x g => decide_eq_true ⟨rfl, x, g⟩)
    intro ρ' dh' H' d u o ru qq
    obtain ⟨rfl, x, g⟩ := of_decide_eq_true qq
    obtain ⟨a, rfl, ea⟩ := rel_ref.mp ru
    obtain ⟨ob, g1, g2⟩ := o.obj _ _ ea
    rw [g] at g1; cases g1
    obtain ⟨a', ws, e1, h1, h2⟩ := g2
    cases e1
    obtain ⟨m, em, fm⟩ := o.le.pre
    have hm : Loc.ob a ∈ m := by
      rw [em, List.getElem?_append_right (by rw [er.len]; omega)] at ea
      exact List.mem_of_getElem? ea
    have hn : Loc.ob a ∉ ρ := fun z => by
      obtain ⟨i, hi⟩ := List.mem_iff_getElem?.mp z
      have e2 := o.le.at hi
      have := o.nd i dh.n _ e2 ea
      have l := lt_of_get hi
      rw [this, er.len] at l
      omega
    have o2 := out_add (xs := xs) (out_cut er x o) (fm a hm) h1 hn (flat_rels hf h2)
    exact ke _ _ H' _ _ o2 (rel_ref.mpr ⟨a, rfl, by rw [er.len]; simp⟩) hk
theorem DOk.plainly (D : DOk P w K mg base k G call j d ps) (h : Plainly call call' j) : DOk P w K mg base k G call' j d ps := by
  obtain ⟨fd, F, D⟩ := D
  exact ⟨fd, F, D.plainly h⟩
theorem DOk.freshly (D : DOk P w K mg base k G call j d ps) (h : Freshly call call' j) : DOk P w K mg base k G call' j d ps := by
  obtain ⟨fd, F, D⟩ := D
  exact ⟨fd, F, D.freshly h⟩
/-! ### a law's right -/
/-- it answers True, the pot is a pot still -/
noncomputable def okPot (d : DV) (h : DH) : Bool := onB false d fun b => cnd b (obP false (h.get 0) true) false
/-- from a pot: True; another pot, all else as it was -/
def spRight : Sp := fun vs H Q _ => ∃ (b : Addr) (x y : Int), vs = [.ref b] ∧ H b = some (.lst [.int x, .int y]) ∧ PotOk x y ∧
  ∀ (H' : Hp) (x' y' : Int), PotOk x' y' → H' b = some (.lst [.int x', .int y']) → (∀ c o, c ≠ b → H c = some o → (∀ ps, o ≠ .tbl ps) → H' c = some o) → Q (.bl true) H'
theorem right_ok (F : FD P w K mg base k G call j f fd ps) (hl : ps.length = 1) (hT : G.T = []) (hgd : G.gd = false) (h : call j [.ref 0] h0 noX okPot = true) : FnOk P w K mg base (L2.CX P w) k f fd ps spRight := by
  refine ⟨fun vs H Q E q => ?_, fun A outer s H args us vs Q E hr e0 hbd r q => ?_⟩
  · obtain ⟨b, x, y, rfl, _⟩ := q
    rw [hl]; rfl
  · obtain ⟨b, x, y, rfl, hb, hx, hq⟩ := q
    have er : EntR G s.heap (frs outer) [.ob b] H h0 := by
      refine ⟨rfl, fun i j l e1 e2 => ?_, fun i l e => ?_, by rw [hT]; exact fun _ z => absurd z (by simp)⟩
      · have l1 := lt_of_get e1
        have l2 := lt_of_get e2
        simp at l1 l2; omega
      · have l1 := lt_of_get e
        have : i = 0 := by simp at l1; omega
        subst this
        have : l = .ob b := by simpa using e.symm
        subst this
        exact ⟨.pot, rfl, b, x, y, rfl, hb, hx⟩
    refine F.run A outer s H args us _ Q E [.ob b] h0 [.ref 0] noX okPot hr (fun z => by rw [hgd] at z; cases z) e0 hbd r er (rels_cons.mpr ⟨_, [], rfl, rel_ref.mpr ⟨b, rfl, rfl⟩, rels_nil.mpr rfl⟩) ?_ no_exc h
    intro ρ' dh' H' d v o rv qq
    obtain ⟨t, rfl, qq⟩ := onB_of qq
    obtain ⟨rfl, qq⟩ := cnd_and qq
    obtain ⟨hp, _⟩ := obP_of qq
    rw [rel_bl] at rv; subst rv
    obtain ⟨ob, g1, g2⟩ := o.obj 0 _ (o.le.at (i := 0) (a := .ob b) rfl)
    rw [hp] at g1; cases g1
    obtain ⟨a, x', y', e, ha, h0'⟩ := g2
    cases e
    exact hq H' x' y' h0' ha fun c u hc hu ht => o.le.keep c u hu (by simpa using hc) ht
end
end Dz

set_option Elab.async false
set_option linter.all false
set_option maxRecDepth 100000
set_option maxHeartbeats 4000000
/-! Dz: the evaluator by steps: what it hands on, for data that are told by names. -/
namespace Dz
open PySem L2
def Ev (e : Ex) (fr : Fr) (h : DH) (d : DV) (h' : DH) : Prop := ∀ (kx : KX) (k : KV), e fr h kx k = k d h'
def Evs (e : Exs) (fr : Fr) (h : DH) (ds : List DV) (h' : DH) : Prop := ∀ (kx : KX) (k : KVs), e fr h kx k = k ds h'
def Tv (t : Tx) (fr : Fr) (h : DH) (b : Bool) (h' : DH) : Prop := ∀ (kx : KX) (k : Bool → DH → Bool), t fr h kx k = k b h'
def Sv (s : Sx) (fr : Fr) (h : DH) (fr' : Fr) (h' : DH) : Prop := ∀ (nx : KN) (rt : KV) (ex : KE) (bk ct : KN), s fr h nx rt ex bk ct = nx fr' h'
def Sr (s : Sx) (fr : Fr) (h : DH) (d : DV) (h' : DH) : Prop := ∀ (nx : KN) (rt : KV) (ex : KE) (bk ct : KN), s fr h nx rt ex bk ct = rt d h'
def Go (g : Gx) (d : DV) (fr : Fr) (h : DH) (fr' : Fr) (h' : DH) : Prop := ∀ k : KN, g d fr h k = k fr' h'
def Gos (g : Gxs) (ds : List DV) (fr : Fr) (h : DH) (fr' : Fr) (h' : DH) : Prop := ∀ k : KN, g ds fr h k = k fr' h'
def Iv (t : Ix) (fr : Fr) (h : DH) (j : It) (h' : DH) : Prop := ∀ (kx : KX) (k : KI), t fr h kx k = k j h'
def Cv (call : Call) (j : Nat) (as : List DV) (h : DH) (d : DV) (h' : DH) : Prop := ∀ (kx : KX) (k : KV), call j as h kx k = k d h'
section
variable {a b c : Ex} {es us : Exs} {t u : Tx} {fr fr1 fr2 fr3 : Fr} {h h1 h2 h3 : DH} {x y z d : DV} {ds as xs : List DV} {i j n m : Nat} {call : Call} {pm : List PArg} {s r : Sx} {g : Gx} {gs : Gxs}
theorem ev_var (e : nth fr i = some (some d)) : Ev (cVar i) fr h d h := fun kx k => by
  show onO false (nth fr i) (fun o => onO false o fun d => k d h) = _
  rw [e]; rfl
theorem ev_cst : Ev (cCst d) fr h d h := fun kx k => rfl
theorem evs_nil : Evs cNil fr h [] h := fun kx k => rfl
theorem evs_cons (ha : Ev a fr h x h1) (hs : Evs es fr h1 ds h2) : Evs (cCons a es) fr h (x :: ds) h2 := fun kx k => by
  show a fr h kx (fun d h => es fr h kx fun ds h => k (d :: ds) h) = _
  rw [ha]; exact hs kx _
theorem ev_tup (hs : Evs es fr h ds h1) : Ev (cTup es) fr h (.tup ds) h1 := fun kx k => hs kx _
theorem ev_lst (hs : Evs es fr h ds h1) : Ev (cLst es) fr h (.ref h1.n) (h1.new (.lst ds)) := fun kx k => hs kx _
theorem ev_bin {f : DV → DV → DH → RH} (ha : Ev a fr h x h1) (hb : Ev b fr h1 y h2) (hf : f x y h2 = some (z, h3)) : Ev (cBin f a b) fr h z h3 := fun kx k => by
  show a fr h kx (fun x h => b fr h kx fun y h => kh (f x y h) k) = _
  rw [ha, hb, hf]; rfl
theorem ev_bin0 {f : DV → DV → Option DV} (ha : Ev a fr h x h1) (hb : Ev b fr h1 y h2) (hf : f x y = some z) : Ev (cBin0 f a b) fr h z h2 := fun kx k => by
  show a fr h kx (fun x h => b fr h kx fun y h => ko (f x y) h k) = _
  rw [ha, hb, hf]; rfl
theorem ev_cmp {neg : Bool} {f : DV → DV → DH → T3} {q : Bool} (ha : Ev a fr h x h1) (hb : Ev b fr h1 y h2) (hf : f x y h2 = ofB q) : Ev (cCmp neg f a b) fr h (.bl (cnd q (not neg) neg)) h2 := fun kx k => by
  show a fr h kx (fun x h => b fr h kx fun y h => ko (t3 neg (f x y h)) h k) = _
  rw [ha, hb, hf]; cases q <;> rfl
theorem ev_ix (ha : Ev a fr h x h1) (hb : Ev b fr h1 y h2) (hf : getIx x y h2 = some z) : Ev (cIx a b) fr h z h2 := fun kx k => by
  show a fr h kx (fun x h => b fr h kx fun y h => ko (getIx x y h) h k) = _
  rw [ha, hb, hf]; rfl
theorem ev_bc {f : Bi} (hs : Evs es fr h ds h1) (hf : f ds h1 = some (z, h2)) : Ev (cBc f es) fr h z h2 := fun kx k => by
  show es fr h kx (fun ds h => kh (f ds h) k) = _
  rw [hs, hf]; rfl
theorem ev_call (hs : Evs es fr h ds h1) (hp : pick pm ds = some as) (hc : Cv call j as h1 z h2) : Ev (cCall call j pm es) fr h z h2 := fun kx k => by
  show es fr h kx (fun ds h => onO false (pick pm ds) fun as => call j as h kx k) = _
  rw [hs, hp]; exact hc kx k
theorem ev_mL {f : Me} (ha : Ev a fr h (.ref i) h1) (hg : h1.get i = some (.lst xs)) (hs : Evs es fr h1 ds h2) (hf : f (.ref i) ds h2 = some (z, h3)) : Ev (cML f a es) fr h z h3 := fun kx k => by
  show a fr h kx (fun x h => onR false x fun i => obL false (h.get i) fun _ => es fr h kx fun ds h => kh (f x ds h) k) = _
  rw [ha]
  show obL false (h1.get i) (fun _ => es fr h1 kx fun ds h => kh (f (.ref i) ds h) k) = _
  rw [hg]
  show es fr h1 kx (fun ds h => kh (f (.ref i) ds h) k) = _
  rw [hs, hf]; rfl
theorem ev_itet (ht : Tv t fr h true h1) (ha : Ev a fr h1 z h2) : Ev (cIte t a b) fr h z h2 := fun kx k => by
  show t fr h kx (fun c h => cnd c (a fr h kx k) (b fr h kx k)) = _
  rw [ht]; exact ha kx k
theorem ev_itef (ht : Tv t fr h false h1) (hb : Ev b fr h1 z h2) : Ev (cIte t a b) fr h z h2 := fun kx k => by
  show t fr h kx (fun c h => cnd c (a fr h kx k) (b fr h kx k)) = _
  rw [ht]; exact hb kx k
theorem tv_of {q : Bool} (ha : Ev a fr h (.bl q) h1) : Tv (cTest a) fr h q h1 := fun kx k => by
  show a fr h kx (fun x h => onB false x fun b => k b h) = _
  rw [ha]; rfl
theorem go_nm : Go (gNm i) d fr h (setAt fr i (some d)) h := fun k => rfl
theorem gos_nil : Gos gNil [] fr h fr h := fun k => rfl
theorem gos_cons (h1' : Go g d fr h fr1 h1) (h2' : Gos gs ds fr1 h1 fr2 h2) : Gos (gCons g gs) (d :: ds) fr h fr2 h2 := fun k => by
  show g d fr h (fun fr h => gs ds fr h k) = _
  rw [h1']; exact h2' k
theorem go_tup (hn : lenN ds = n) (hg : Gos gs ds fr h fr1 h1) : Go (gTup n gs) (.tup ds) fr h fr1 h1 := fun k => by
  show cnd (Nat.beq (lenN ds) n) (gs ds fr h k) false = _
  rw [hn, Nat.beq_refl]; exact hg k
theorem go_ix (ha : Ev a fr h x h1) (hb : Ev b fr h1 y h2) (hs : setIx x y d h2 = some h3) : Go (gIx a b) d fr h fr h3 := fun k => by
  show a fr h noK (fun x h => b fr h noK fun y h => onO false (setIx x y d h) fun h => k fr h) = _
  rw [ha, hb, hs]; rfl
theorem sv_nil : Sv sNil fr h fr h := fun _ _ _ _ _ => rfl
theorem sv_seq (h1' : Sv s fr h fr1 h1) (h2' : Sv r fr1 h1 fr2 h2) : Sv (sSeq s r) fr h fr2 h2 := fun nx rt ex bk ct => by
  show s fr h (fun fr h => r fr h nx rt ex bk ct) rt ex bk ct = _
  rw [h1']; exact h2' _ _ _ _ _
theorem sr_seq (h1' : Sv s fr h fr1 h1) (h2' : Sr r fr1 h1 d h2) : Sr (sSeq s r) fr h d h2 := fun nx rt ex bk ct => by
  show s fr h (fun fr h => r fr h nx rt ex bk ct) rt ex bk ct = _
  rw [h1']; exact h2' _ _ _ _ _
theorem sr_seq1 (h1' : Sr s fr h d h1) : Sr (sSeq s r) fr h d h1 := fun nx rt ex bk ct => h1' _ _ _ _ _
theorem sv_expr (ha : Ev a fr h x h1) : Sv (sExpr a) fr h fr h1 := fun nx rt ex bk ct => ha _ _
theorem sr_ret (ha : Ev a fr h x h1) : Sr (sRet a) fr h x h1 := fun nx rt ex bk ct => ha _ _
theorem sv_asg (ha : Ev a fr h x h1) (hg : Go g x fr h1 fr2 h2) : Sv (sAsg g a) fr h fr2 h2 := fun nx rt ex bk ct => by
  show a fr h (kxOf ex fr) (fun d h => g d fr h nx) = _
  rw [ha]; exact hg nx
theorem sv_par2 (hs : Evs es fr h [x, y] h1) : Sv (sPar2 i j es) fr h (setAt (setAt fr i (some x)) j (some y)) h1 := fun nx rt ex bk ct => by
  show es fr h (kxOf ex fr) (fun ds h => List.casesOn ds false fun d r => arg1 false r fun e => nx (setAt (setAt fr i (some d)) j (some e)) h) = _
  rw [hs]; rfl
theorem sv_ift (ht : Tv t fr h true h1) (ha : Sv s fr h1 fr2 h2) : Sv (sIf t s r) fr h fr2 h2 := fun nx rt ex bk ct => by
  show t fr h (kxOf ex fr) (fun c h => cnd c (s fr h nx rt ex bk ct) (r fr h nx rt ex bk ct)) = _
  rw [ht]; exact ha _ _ _ _ _
theorem sv_iff (ht : Tv t fr h false h1) (ha : Sv r fr h1 fr2 h2) : Sv (sIf t s r) fr h fr2 h2 := fun nx rt ex bk ct => by
  show t fr h (kxOf ex fr) (fun c h => cnd c (s fr h nx rt ex bk ct) (r fr h nx rt ex bk ct)) = _
  rw [ht]; exact ha _ _ _ _ _
theorem sr_ift (ht : Tv t fr h true h1) (ha : Sr s fr h1 d h2) : Sr (sIf t s r) fr h d h2 := fun nx rt ex bk ct => by
  show t fr h (kxOf ex fr) (fun c h => cnd c (s fr h nx rt ex bk ct) (r fr h nx rt ex bk ct)) = _
  rw [ht]; exact ha _ _ _ _ _
theorem sr_iff (ht : Tv t fr h false h1) (ha : Sr r fr h1 d h2) : Sr (sIf t s r) fr h d h2 := fun nx rt ex bk ct => by
  show t fr h (kxOf ex fr) (fun c h => cnd c (s fr h nx rt ex bk ct) (r fr h nx rt ex bk ct)) = _
  rw [ht]; exact ha _ _ _ _ _
/-! ranges -/
theorem small_nat {n : Nat} (hn : n < 4611686018427387904) : small62 (.ofNat n) = true := by
  show Nat.ble (Nat.log2 n) 61 = true
  refine Nat.ble_eq.mpr ?_
  by_cases z : n = 0
  · subst z; decide
  · have := (Nat.log2_lt (k := 62) z).mpr (by omega)
    omega
theorem iv_rng1 (hs : Evs es fr h [.int (.ofNat n)] h1) (hn : n < 4611686018427387904) : Iv (iRng es) fr h (.rng 0 n) h1 := fun kx k => by
  show es fr h kx (fun ds h => List.casesOn ds false fun x r => cnd (nilB r) (onI false x fun n => cnd (small62 n) (k (.rng 0 n.toNat) h) false) (arg1 false r fun y => onI false x fun a => onI false y fun n => cnd (small62 a) (cnd (small62 n) (k (.rng a (Int.sub n a).toNat) h) false) false)) = _
  rw [hs]
  show cnd (small62 (.ofNat n)) (k (.rng 0 n) h1) false = _
  rw [small_nat hn]; rfl
theorem iv_rng2 {lo : Nat} {hi : Int} (hs : Evs es fr h [.int (.ofNat lo), .int hi] h1) (hl : lo < 4611686018427387904) (hh : small62 hi = true) (hd : (Int.sub hi (.ofNat lo)).toNat = n) : Iv (iRng es) fr h (.rng (.ofNat lo) n) h1 := fun kx k => by
  show es fr h kx (fun ds h => List.casesOn ds false fun x r => cnd (nilB r) (onI false x fun n => cnd (small62 n) (k (.rng 0 n.toNat) h) false) (arg1 false r fun y => onI false x fun a => onI false y fun n => cnd (small62 a) (cnd (small62 n) (k (.rng a (Int.sub n a).toNat) h) false) false)) = _
  rw [hs]
  show cnd (small62 (.ofNat lo)) (cnd (small62 hi) (k (.rng (.ofNat lo) (Int.sub hi (.ofNat lo)).toNat) h1) false) false = _
  rw [small_nat hl, hh, hd]; rfl
/-! loops: Inv by the turns that are done -/
theorem rng_at {lo : Int} {i n : Nat} (hi : i < n) : (It.rng lo n).nxt i h = some (some (.int (Int.add lo (.ofNat i)))) := by
  show some (cnd (Nat.ble (Nat.succ i) n) (some (DV.int (Int.add lo (.ofNat i)))) none) = _
  rw [Nat.ble_eq.mpr hi]; rfl
theorem rng_end {lo : Int} {n : Nat} : (It.rng lo n).nxt n h = some none := by
  show some (cnd (Nat.ble (Nat.succ n) n) (some (DV.int (Int.add lo (.ofNat n)))) none) = _
  have : Nat.ble (Nat.succ n) n = false := by
    cases q : Nat.ble (Nat.succ n) n with
    | false => rfl
    | true => exact absurd (Nat.le_of_ble_eq_true q) (by omega)
  rw [this]; rfl
theorem for_go {q : It} {n : Nat} {Inv : Nat → Fr → DH → Prop} (hend : ∀ fr h, Inv n fr h → q.nxt n h = some none)
    (hs : ∀ i, i < n → ∀ fr h, Inv i fr h → ∃ x fr1 h1 fr2 h2, q.nxt i h = some (some x) ∧ Go g x fr h fr1 h1 ∧ Sv s fr1 h1 fr2 h2 ∧ Inv (i + 1) fr2 h2) :
    ∀ (m i fuel : Nat) (fr : Fr) (h : DH), i + m = n → m < fuel → Inv i fr h → ∃ fr' h', Inv n fr' h' ∧ ∀ nx rt ex, forLoop g q s nx rt ex fuel i fr h = nx fr' h'
  | 0, i, fuel, fr, h, e, hf, iv => by
    obtain ⟨f, rfl⟩ : ∃ f, fuel = f + 1 := ⟨fuel - 1, by omega⟩
    have : i = n := by omega
    subst this
    refine ⟨fr, h, iv, fun nx rt ex => ?_⟩
    show turn (q.nxt i h) (nx fr h) _ = _
    rw [hend fr h iv]; rfl
  | m + 1, i, fuel, fr, h, e, hf, iv => by
    obtain ⟨f, rfl⟩ : ∃ f, fuel = f + 1 := ⟨fuel - 1, by omega⟩
    obtain ⟨x, fr1, h1, fr2, h2, e1, e2, e3, e4⟩ := hs i (by omega) fr h iv
    obtain ⟨fr', h', k1, k2⟩ := for_go hend hs m (i + 1) f fr2 h2 (by omega) (by omega) e4
    refine ⟨fr', h', k1, fun nx rt ex => ?_⟩
    show turn (q.nxt i h) (nx fr h) (fun x => g x fr h fun fr h => s fr h (forLoop g q s nx rt ex f (Nat.succ i)) rt ex nx (forLoop g q s nx rt ex f (Nat.succ i))) = _
    rw [e1]
    show g x fr h (fun fr h => s fr h (forLoop g q s nx rt ex f (Nat.succ i)) rt ex nx (forLoop g q s nx rt ex f (Nat.succ i))) = _
    rw [e2, e3]
    exact k2 nx rt ex
theorem sv_for {it : Ix} {q : It} {n : Nat} {Inv : Nat → Fr → DH → Prop} (hi : Iv it fr h q h1) (hn : n < 100000) (h0 : Inv 0 fr h1) (hend : ∀ fr h, Inv n fr h → q.nxt n h = some none)
    (hs : ∀ i, i < n → ∀ fr h, Inv i fr h → ∃ x fr1 h1 fr2 h2, q.nxt i h = some (some x) ∧ Go g x fr h fr1 h1 ∧ Sv s fr1 h1 fr2 h2 ∧ Inv (i + 1) fr2 h2) : ∃ fr' h', Inv n fr' h' ∧ Sv (sFor g it s) fr h fr' h' := by
  obtain ⟨fr', h', k1, k2⟩ := for_go hend hs n 0 lcF fr h1 (by omega) hn h0
  refine ⟨fr', h', k1, fun nx rt ex bk ct => ?_⟩
  show it fr h (kxOf ex fr) (fun j h => forLoop g j s nx rt ex lcF 0 fr h) = _
  rw [hi]
  exact k2 nx rt ex
/-! comprehensions -/
theorem lc_go {q : It} {n : Nat} {fr0 : Fr} {Inv : Nat → DH → List DV → Prop} (hend : ∀ h acc, Inv n h acc → q.nxt n h = some none)
    (hs : ∀ i, i < n → ∀ h acc, Inv i h acc → ∃ x fr1 h1 d h2, q.nxt i h = some (some x) ∧ Go g x fr0 h fr1 h1 ∧ Ev a fr1 h1 d h2 ∧ Inv (i + 1) h2 (d :: acc)) :
    ∀ (m i fuel : Nat) (h : DH) (acc : List DV), i + m = n → m < fuel → Inv i h acc → ∃ h' acc', Inv n h' acc' ∧ ∀ k, lcLoop a g q fr0 k fuel i h acc = k acc' h'
  | 0, i, fuel, h, acc, e, hf, iv => by
    obtain ⟨f, rfl⟩ : ∃ f, fuel = f + 1 := ⟨fuel - 1, by omega⟩
    have : i = n := by omega
    subst this
    refine ⟨h, acc, iv, fun k => ?_⟩
    show turn (q.nxt i h) (k acc h) _ = _
    rw [hend h acc iv]; rfl
  | m + 1, i, fuel, h, acc, e, hf, iv => by
    obtain ⟨f, rfl⟩ : ∃ f, fuel = f + 1 := ⟨fuel - 1, by omega⟩
    obtain ⟨x, fr1, h1, d, h2, e1, e2, e3, e4⟩ := hs i (by omega) h acc iv
    obtain ⟨h', acc', k1, k2⟩ := lc_go hend hs m (i + 1) f h2 (d :: acc) (by omega) (by omega) e4
    refine ⟨h', acc', k1, fun k => ?_⟩
    show turn (q.nxt i h) (k acc h) (fun x => g x fr0 h fun fr h => a fr h noK fun d h => lcLoop a g q fr0 k f (Nat.succ i) h (d :: acc)) = _
    rw [e1]
    show g x fr0 h (fun fr h => a fr h noK fun d h => lcLoop a g q fr0 k f (Nat.succ i) h (d :: acc)) = _
    rw [e2, e3]
    exact k2 k
theorem ev_lc {it : Ix} {q : It} {n : Nat} {drop : List Nat} {Inv : Nat → DH → List DV → Prop} (hi : Iv it fr h q h1) (hn : n < 100000) (h0 : Inv 0 h1 []) (hend : ∀ h acc, Inv n h acc → q.nxt n h = some none)
    (hs : ∀ i, i < n → ∀ h acc, Inv i h acc → ∃ x fr1 h1 d h2, q.nxt i h = some (some x) ∧ Go g x (bDrop drop fr) h fr1 h1 ∧ Ev a fr1 h1 d h2 ∧ Inv (i + 1) h2 (d :: acc)) :
    ∃ h' acc, Inv n h' acc ∧ Ev (cLc drop a g it) fr h (.ref h'.n) (h'.new (.lst acc.reverse)) := by
  obtain ⟨h', acc, k1, k2⟩ := lc_go hend hs n 0 lcF h1 [] (by omega) hn h0
  refine ⟨h', acc, k1, fun kx k => ?_⟩
  show it fr h kx (fun j h => lcLoop a g j (bDrop drop fr) (lcEnd k) lcF 0 h []) = _
  rw [hi, k2]
  show k (.ref h'.n) (h'.new (.lst (revO acc []))) = _
  rw [revO_eq, List.append_nil]
/-! calls of a table -/
theorem cv_body {fns : Nat → FnD} {q np more : Nat} {bd : Call → Sx} (hj : fns j = .body np [] more bd) (hl : lenN as = np) (hb : Sr (bd (callK fns q)) (plainFr more as) h d h1) : Cv (callK fns (q + 1)) j as h d h1 := fun kx k => by
  have e : callK fns (q + 1) j as h kx k = runFn (callK fns q) (fns j) as h kx k := rfl
  rw [e, hj]
  show cnd (Nat.beq (lenN as) np) (bd (callK fns q) (plainFr more as) h (fun _ h => k .non h) k (fun c fs _ h => kx c fs h) noN noN) false = _
  rw [hl, Nat.beq_refl]
  exact hb _ _ _ _ _
end
end Dz

set_option Elab.async false
set_option linter.all false
set_option maxRecDepth 100000
set_option maxHeartbeats 4000000
/-! Dz: whole numbers by steps; the laws' draw. -/
namespace Dz
open PySem L2
section
variable {h : DH} {a n : Int} {p q : Nat}
theorem log2_lt {m p : Nat} (hm : m < 2 ^ p) (hp : 0 < p) : Nat.log2 m < p := by
  by_cases z : m = 0
  · subst z; have : Nat.log2 0 = 0 := by decide
    omega
  · exact (Nat.log2_lt z).mpr hm
theorem mulI_ok (ha : a.natAbs < 2 ^ p) (hn : n.natAbs < 2 ^ q) (hp : 0 < p) (hq : 0 < q) (hs : p + q ≤ 1000000) : mulI a n h = some (.int (a * n), h) := by
  have h1 := log2_lt ha hp
  have h2 := log2_lt hn hq
  have e : Nat.ble (Nat.add (Nat.log2 a.natAbs) (Nat.log2 n.natAbs)) 999999 = true := Nat.ble_eq.mpr (by show Nat.log2 a.natAbs + Nat.log2 n.natAbs ≤ 999999; omega)
  unfold mulI
  rw [e]; rfl
theorem op_mulI (ha : a.natAbs < 2 ^ p) (hn : n.natAbs < 2 ^ q) (hp : 0 < p) (hq : 0 < q) (hs : p + q ≤ 1000000) : opMul (.int a) (.int n) h = some (.int (a * n), h) := mulI_ok ha hn hp hq hs
theorem op_addI : opAdd (.int a) (.int n) h = some (.int (a + n), h) := rfl
theorem op_subI : opInt subI (.int a) (.int n) = some (.int (a - n)) := rfl
theorem op_modI (hn : 0 < n) : opInt modI (.int a) (.int n) = some (.int (a % n)) := by
  show cnd (intLt 0 n) (some (DV.int (Int.emod a n))) none = _
  rw [intLt_iff, decide_eq_true hn]; rfl
theorem op_fdivI (hn : 0 < n) (hb : n.natAbs < 2 ^ 9000) : opInt fdivI (.int a) (.int n) = some (.int (a / n)) := by
  show cnd (intLt 0 n) (cnd (Nat.ble (Nat.log2 n.natAbs) 8999) (some (DV.int (Int.ediv a n))) none) none = _
  have e : Nat.ble (Nat.log2 n.natAbs) 8999 = true := Nat.ble_eq.mpr (by have := log2_lt hb (by decide); omega)
  rw [intLt_iff, decide_eq_true hn, e]; rfl
theorem gt_I : gtC (.int a) (.int n) h = ofB (decide (n < a)) := by
  rw [← intLt_iff]; rfl
theorem eq_I : eqC (.int a) (.int n) h = ofB (decide (a = n)) := by
  show ofB (intEq a n) = _
  rw [intEq_iff]
theorem get_l {i : Nat} {xs : List DV} (hg : h.get i = some (.lst xs)) (k : Int) : getIx (.ref i) (.int k) h = ixIn xs k := by
  show obL _ (h.get i) (fun xs => onI none (.int k) fun k => ixIn xs k) = _
  rw [hg]; rfl
theorem set_l {i k : Nat} {xs : List DV} {v : DV} (hg : h.get i = some (.lst xs)) (hk : k < xs.length) : setIx (.ref i) (.int (.ofNat k)) v h = some (h.put i (.lst (setAt xs k v))) := by
  show obL _ (h.get i) (fun xs => onI none (.int (.ofNat k)) fun k => onO none (ixOf (lenN xs) k) fun n => some (h.put i (.lst (setAt xs n v)))) = _
  rw [hg]
  show onO none (cnd (Nat.ble (Nat.succ k) (lenN xs)) (some k) none) (fun n => some (h.put i (.lst (setAt xs n v)))) = _
  rw [lenN_eq, Nat.ble_eq.mpr hk]; rfl
end
/-- the draw's body, by its numbers -/
noncomputable def drawBd (A B M M2 D : Nat) : Sx := (sSeq (sIf (cTest (cCmp false gtC (cIx (cVar 0) (cCst (.int (.ofNat 0)))) (cCst (.int (.ofNat 0))))) (sSeq (sAsg (gTup 2 (gCons (gIx (cVar 0) (cCst (.int (.ofNat 0)))) (gCons (gNm 2) gNil))) (cBc bDivmod (cCons (cIx (cVar 0) (cCst (.int (.ofNat 0)))) (cCons (cVar 1) cNil)))) (sRet (cVar 2))) sNil)
  (sSeq (sAsg (gIx (cVar 0) (cCst (.int (.ofNat 1)))) (cBin0 (opInt modI) (cBc bInt (cCons (cBin opAdd (cBin opMul (cIx (cVar 0) (cCst (.int (.ofNat 1)))) (cCst (.int (.ofNat A)))) (cCst (.int (.ofNat B)))) cNil)) (cCst (.int (.ofNat M)))))
  (sRet (cBin0 (opInt modI) (cBc bInt (cCons (cBin0 (opInt fdivI) (cBin0 (opInt modI) (cBc bInt (cCons (cBin opMul (cIx (cVar 0) (cCst (.int (.ofNat 1)))) (cIx (cVar 0) (cCst (.int (.ofNat 1))))) cNil)) (cCst (.int (.ofNat M2)))) (cCst (.int (.ofNat D)))) cNil)) (cVar 1)))))
theorem drawBd_ok {inner : Call} {j A B M M2 D : Nat} (hA : A < 4294967296) (hM : 0 < M) (hM' : M ≤ 4294967296) (hM2 : 0 < M2) (hD : 0 < D) (hD' : D < 4294967296) : DrawB (fun _ ds dh kx kk => runFn inner (.body 2 [] 1 fun _ => drawBd A B M M2 D) ds dh kx kk) j := by
  intro dh i x y n kx kk hg ⟨hx0, hy0, hy1⟩ hn hn2 hk
  show drawBd A B M M2 D [some (.ref i), some (.int n), none] dh (fun _ h => kk .non h) kk (fun c fs _ h => kx c fs h) noN noN = true
  have v0 : ∀ {o : Option DV} {dh : DH}, Ev (cVar 0) [some (.ref i), some (.int n), o] dh (.ref i) dh := fun {o dh} => ev_var rfl
  have v1 : ∀ {o : Option DV} {dh : DH}, Ev (cVar 1) [some (.ref i), some (.int n), o] dh (.int n) dh := fun {o dh} => ev_var rfl
  have p0 : Ev (cIx (cVar 0) (cCst (.int (.ofNat 0)))) [some (.ref i), some (.int n), none] dh (.int x) dh := ev_ix v0 ev_cst (by rw [get_l hg]; rfl)
  have p1 : Ev (cIx (cVar 0) (cCst (.int (.ofNat 1)))) [some (.ref i), some (.int n), none] dh (.int y) dh := ev_ix v0 ev_cst (by rw [get_l hg]; rfl)
  have t : Tv (cTest (cCmp false gtC (cIx (cVar 0) (cCst (.int (.ofNat 0)))) (cCst (.int (.ofNat 0))))) [some (.ref i), some (.int n), none] dh (cnd (decide (0 < x)) (not false) false) dh := tv_of (ev_cmp p0 ev_cst gt_I)
  by_cases hx : 0 < x
  · have e : cnd (decide (0 < x)) (not false) false = true := by rw [decide_eq_true hx]; rfl
    rw [e] at t
    have g : Go (gTup 2 (gCons (gIx (cVar 0) (cCst (.int (.ofNat 0)))) (gCons (gNm 2) gNil))) (.tup [.int (x / n), .int (x % n)]) [some (.ref i), some (.int n), none] dh [some (.ref i), some (.int n), some (.int (x % n))] (dh.put i (.lst [.int (x / n), .int y])) :=
      go_tup rfl (gos_cons (go_ix v0 ev_cst (set_l (k := 0) hg (by simp))) (gos_cons go_nm gos_nil))
    have dm : bDivmod [.int x, .int n] dh = some (.tup [.int (x / n), .int (x % n)], dh) := by
      show cnd (intLt 0 n) (cnd (Nat.ble (Nat.log2 n.natAbs) 8999) (some (DV.tup [.int (Int.ediv x n), .int (Int.emod x n)], dh)) none) none = _
      have e2 : Nat.ble (Nat.log2 n.natAbs) 8999 = true := Nat.ble_eq.mpr (by have := log2_lt (m := n.natAbs) (p := 62) (by omega) (by decide); omega)
      rw [intLt_iff, decide_eq_true hn, e2]; rfl
    have r : Sr (drawBd A B M M2 D) [some (.ref i), some (.int n), none] dh (.int (x % n)) (dh.put i (.lst [.int (x / n), .int y])) :=
      sr_seq1 (sr_ift t (sr_seq (sv_asg (ev_bc (evs_cons p0 (evs_cons v1 evs_nil)) dm) g) (sr_ret (ev_var rfl))))
    rw [r]
    exact hk _ _ _ ⟨Int.ediv_nonneg hx0 (by omega), hy0, hy1⟩ (Int.emod_nonneg _ (by omega)) (Int.emod_lt_of_pos _ hn)
  · have e : cnd (decide (0 < x)) (not false) false = false := by rw [decide_eq_false hx]; rfl
    rw [e] at t
    obtain ⟨y2, hy2⟩ : ∃ y2, y2 = (y * (A : Int) + (B : Int)) % (M : Int) := ⟨_, rfl⟩
    have b0 : 0 ≤ y2 := by rw [hy2]; exact Int.emod_nonneg _ (by omega)
    have b1 : y2 < (M : Int) := by rw [hy2]; exact Int.emod_lt_of_pos _ (by omega)
    have m1 : opMul (.int y) (.int (.ofNat A)) dh = some (.int (y * (A : Int)), dh) := op_mulI (p := 32) (q := 32) (by omega) (by show A < 2 ^ 32; omega) (by decide) (by decide) (by decide)
    have e1 : Ev (cBin0 (opInt modI) (cBc bInt (cCons (cBin opAdd (cBin opMul (cIx (cVar 0) (cCst (.int (.ofNat 1)))) (cCst (.int (.ofNat A)))) (cCst (.int (.ofNat B)))) cNil)) (cCst (.int (.ofNat M)))) [some (.ref i), some (.int n), none] dh (.int y2) dh := by
      rw [hy2]
      exact ev_bin0 (ev_bc (evs_cons (ev_bin (ev_bin p1 ev_cst m1) ev_cst op_addI) evs_nil) rfl) ev_cst (op_modI (by show (0 : Int) < (M : Int); omega))
    have g : Go (gIx (cVar 0) (cCst (.int (.ofNat 1)))) (.int y2) [some (.ref i), some (.int n), none] dh [some (.ref i), some (.int n), none] (dh.put i (.lst [.int x, .int y2])) := go_ix v0 ev_cst (set_l (k := 1) hg (by simp))
    have hg2 : (dh.put i (.lst [.int x, .int y2])).get i = some (.lst [.int x, .int y2]) := get_put_same _ _ _
    have q1 : Ev (cIx (cVar 0) (cCst (.int (.ofNat 1)))) [some (.ref i), some (.int n), none] (dh.put i (.lst [.int x, .int y2])) (.int y2) (dh.put i (.lst [.int x, .int y2])) := ev_ix v0 ev_cst (by rw [get_l hg2]; rfl)
    have m2 : opMul (.int y2) (.int y2) (dh.put i (.lst [.int x, .int y2])) = some (.int (y2 * y2), dh.put i (.lst [.int x, .int y2])) := op_mulI (p := 32) (q := 32) (by omega) (by omega) (by decide) (by decide) (by decide)
    have r : Sr (drawBd A B M M2 D) [some (.ref i), some (.int n), none] dh (.int (y2 * y2 % (M2 : Int) / (D : Int) % n)) (dh.put i (.lst [.int x, .int y2])) :=
      sr_seq (sv_iff t sv_nil) (sr_seq (sv_asg e1 g) (sr_ret (ev_bin0 (ev_bc (evs_cons (ev_bin0 (ev_bin0 (ev_bc (evs_cons (ev_bin q1 q1 m2) evs_nil) rfl) ev_cst (op_modI (by show (0 : Int) < (M2 : Int); omega))) ev_cst (op_fdivI (by show (0 : Int) < (D : Int); omega) (by show D < 2 ^ 9000; exact Nat.lt_of_lt_of_le hD' (Nat.pow_le_pow_right (n := 2) (by decide) (by decide : 32 ≤ 9000))))) evs_nil) rfl) v1 (op_modI hn))))
    rw [r]
    exact hk _ _ _ ⟨hx0, b0, by omega⟩ (Int.emod_nonneg _ (by omega)) (Int.emod_lt_of_pos _ hn)
end Dz

set_option Elab.async false
set_option linter.all false
set_option maxRecDepth 100000
set_option maxHeartbeats 4000000
/-! Dz: steps with draws: whatever is drawn. -/
namespace Dz
open PySem L2
def Ea (e : Ex) (fr : Fr) (h : DH) (P : DV → DH → Prop) : Prop := ∀ (kx : KX) (k : KV), (∀ d h', P d h' → k d h' = true) → e fr h kx k = true
def Eas (e : Exs) (fr : Fr) (h : DH) (P : List DV → DH → Prop) : Prop := ∀ (kx : KX) (k : KVs), (∀ d h', P d h' → k d h' = true) → e fr h kx k = true
def Ca (call : Call) (j : Nat) (as : List DV) (h : DH) (P : DV → DH → Prop) : Prop := ∀ (kx : KX) (k : KV), (∀ d h', P d h' → k d h' = true) → call j as h kx k = true
def Sa (s : Sx) (fr : Fr) (h : DH) (P : Fr → DH → Prop) : Prop := ∀ (nx : KN) (rt : KV) (ex : KE) (bk ct : KN), (∀ fr' h', P fr' h' → nx fr' h' = true) → s fr h nx rt ex bk ct = true
section
variable {a b : Ex} {es : Exs} {fr : Fr} {h h' : DH} {P P2 : DV → DH → Prop} {Q : List DV → DH → Prop} {d : DV} {call : Call} {j : Nat} {pm : List PArg} {g : Gx} {s : Sx}
theorem ea_ev (e : Ev a fr h d h') (p : P d h') : Ea a fr h P := fun kx k hk => by rw [e]; exact hk _ _ p
theorem ea_imp (e : Ea a fr h P) (i : ∀ d h', P d h' → P2 d h') : Ea a fr h P2 := fun kx k hk => e kx k fun d h' p => hk _ _ (i d h' p)
theorem eas_nil (p : Q [] h) : Eas cNil fr h Q := fun kx k hk => hk _ _ p
theorem eas_cons (ha : Ea a fr h P) (hs : ∀ d h1, P d h1 → Eas es fr h1 (fun ds h2 => Q (d :: ds) h2)) : Eas (cCons a es) fr h Q := fun kx k hk => ha kx _ fun d h1 p => hs d h1 p kx _ fun ds h2 q => hk _ _ q
theorem ea_tup (hs : Eas es fr h (fun ds h' => P (.tup ds) h')) : Ea (cTup es) fr h P := fun kx k hk => hs kx _ fun ds h' p => hk _ _ p
theorem ea_lst (hs : Eas es fr h (fun ds h' => P (.ref h'.n) (h'.new (.lst ds)))) : Ea (cLst es) fr h P := fun kx k hk => hs kx _ fun ds h' p => hk _ _ p
theorem ea_bin {f : DV → DV → DH → RH} (ha : Ea a fr h P) (hb : ∀ x h1, P x h1 → Ea b fr h1 (fun y h2 => ∃ z h3, f x y h2 = some (z, h3) ∧ P2 z h3)) : Ea (cBin f a b) fr h P2 := fun kx k hk => ha kx _ fun x h1 p => hb x h1 p kx _ fun y h2 ⟨z, h3, e, q⟩ => by
  show kh (f x y h2) k = true
  rw [e]; exact hk _ _ q
theorem ea_call (hs : Eas es fr h (fun ds h1 => ∃ as, pick pm ds = some as ∧ Ca call j as h1 P)) : Ea (cCall call j pm es) fr h P := fun kx k hk => hs kx _ fun ds h1 ⟨as, e, c⟩ => by
  show onO false (pick pm ds) (fun as => call j as h1 kx k) = true
  rw [e]; exact c kx k hk
theorem sa_asg {R : Fr → DH → Prop} (ha : Ea a fr h P) (hg : ∀ d h1, P d h1 → ∃ fr' h', Go g d fr h1 fr' h' ∧ R fr' h') : Sa (sAsg g a) fr h R := fun nx rt ex bk ct hk => ha _ _ fun d h1 p => by
  obtain ⟨fr', h', q, r⟩ := hg d h1 p
  rw [q]; exact hk _ _ r
variable {fns : Nat → FnD}
theorem ca_draw {q i : Nat} {n : Int} (hj : fns j = .nat drawN) (hp : h.get i = some .pot) (hn : 0 < n) (hn2 : n < 2 ^ 62) : Ca (callK fns (q + 1)) j [.ref i, .int n] h (fun d h' => h' = h ∧ ∃ z : Nat, d = .int (.ofNat z) ∧ (z : Int) < n) := fun kx k hk => by
  have e : callK fns (q + 1) j [.ref i, .int n] h kx k = runFn (callK fns q) (fns j) [.ref i, .int n] h kx k := rfl
  rw [e, hj]
  show obP false (h.get i) (cnd (intLt 0 n) (cnd (small62 n) (upTo n.toNat fun d => k (.int (.ofNat d)) h) false) false) = true
  have s62 : small62 n = true := by
    obtain ⟨m, rfl⟩ := Int.eq_ofNat_of_zero_le (Int.le_of_lt hn)
    exact small_nat (by omega)
  rw [hp, intLt_iff, decide_eq_true hn, s62]
  exact upTo_all.mpr fun z hz => hk _ _ ⟨rfl, z, rfl, by omega⟩
theorem sa_seq {r : Sx} {R : Fr → DH → Prop} {nx : KN} {rt : KV} {ex : KE} {bk ct : KN} (hs : Sa s fr h R) (hr : ∀ fr' h', R fr' h' → r fr' h' nx rt ex bk ct = true) : sSeq s r fr h nx rt ex bk ct = true := hs _ _ _ _ _ hr
theorem call_run {q np more : Nat} {bd : Call → Sx} {as : List DV} (hj : fns j = .body np [] more bd) (hl : lenN as = np) (kx : KX) (k : KV) : callK fns (q + 1) j as h kx k = bd (callK fns q) (plainFr more as) h (fun _ h => k .non h) k (fun c fs _ h => kx c fs h) noN noN := by
  have e : callK fns (q + 1) j as h kx k = runFn (callK fns q) (fns j) as h kx k := rfl
  rw [e, hj]
  show cnd (Nat.beq (lenN as) np) (bd (callK fns q) (plainFr more as) h (fun _ h => k .non h) k (fun c fs _ h => kx c fs h) noN noN) false = _
  rw [hl, Nat.beq_refl]; rfl
theorem ea_ix (ha : Ea a fr h P) (hb : ∀ x h1, P x h1 → Ea b fr h1 (fun y h2 => ∃ z, getIx x y h2 = some z ∧ P2 z h2)) : Ea (cIx a b) fr h P2 := fun kx k hk => ha kx _ fun x h1 p => hb x h1 p kx _ fun y h2 ⟨z, e, q⟩ => by
  show ko (getIx x y h2) h2 k = true
  rw [e]; exact hk _ _ q
theorem len_l {r : Nat} {xs : List DV} (hg : h.get r = some (.lst xs)) : bLen [.ref r] h = some (.int (.ofNat xs.length), h) := by
  show onO none (obL (obD none (h.get r) fun kvs => some (lenN kvs)) (h.get r) fun xs => some (lenN xs)) (fun n => some (DV.int (.ofNat n), h)) = _
  rw [hg]
  show some (DV.int (.ofNat (lenN xs)), h) = _
  rw [lenN_eq]
/-- the pick's body -/
noncomputable def pickBd (call : Call) (jd : Nat) : Sx := (sRet (cIx (cVar 1) (cCall call jd [.at_ 0, .at_ 1] (cCons (cVar 0) (cCons (cBc bLen (cCons (cVar 1) cNil)) cNil)))))
theorem ca_pick {q i r jd : Nat} {xs : List DV} {bp : Call → Sx} (hj : fns j = .body 2 [] 0 bp) (hb : bp = fun call => pickBd call jd) (hd : fns jd = .nat drawN) (hp : h.get i = some .pot) (hg : h.get r = some (.lst xs)) (h0 : xs ≠ []) (hl : xs.length < 2 ^ 61) :
    Ca (callK fns (q + 2)) j [.ref i, .ref r] h (fun d h' => h' = h ∧ d ∈ xs) := fun kx k hk => by
  have e : callK fns (q + 2) j [.ref i, .ref r] h kx k = runFn (callK fns (q + 1)) (fns j) [.ref i, .ref r] h kx k := rfl
  subst hb
  have hpos : 0 < xs.length := List.length_pos_iff.mpr h0
  rw [e, hj]
  have main : Ea (cIx (cVar 1) (cCall (callK fns (q + 1)) jd [.at_ 0, .at_ 1] (cCons (cVar 0) (cCons (cBc bLen (cCons (cVar 1) cNil)) cNil)))) [some (.ref i), some (.ref r)] h (fun d h' => h' = h ∧ d ∈ xs) := by
    refine ea_ix (P := fun x h1 => x = .ref r ∧ h1 = h) (ea_ev (ev_var rfl) ⟨rfl, rfl⟩) fun x h1 p => ?_
    obtain ⟨rfl, rfl⟩ := p
    refine ea_call (eas_cons (P := fun x h2 => x = .ref i ∧ h2 = h1) (ea_ev (ev_var rfl) ⟨rfl, rfl⟩) fun x h2 p => ?_)
    obtain ⟨rfl, rfl⟩ := p
    refine eas_cons (P := fun x h3 => x = .int (.ofNat xs.length) ∧ h3 = h2) (ea_ev (ev_bc (evs_cons (ev_var rfl) evs_nil) (len_l hg)) ⟨rfl, rfl⟩) fun x h3 p => ?_
    obtain ⟨rfl, rfl⟩ := p
    refine eas_nil ⟨_, rfl, fun kx k hk => ca_draw hd hp (n := .ofNat xs.length) (by show (0 : Int) < (xs.length : Int); omega) (by show (xs.length : Int) < 2 ^ 62; omega) kx k fun d h' p => hk d h' ?_⟩
    obtain ⟨rfl, z, rfl, hz⟩ := p
    have hz : z < xs.length := by have : (z : Int) < (xs.length : Int) := hz; omega
    refine ⟨xs[z], ?_, rfl, List.getElem_mem hz⟩
    rw [get_l hg]
    show onO none (cnd (Nat.ble (Nat.succ z) (lenN xs)) (some z) none) (fun n => nth xs n) = _
    rw [lenN_eq, Nat.ble_eq.mpr hz]
    show nth xs z = _
    rw [nth_eq, List.getElem?_eq_getElem hz]
  exact main _ _ hk
end
end Dz

set_option Elab.async false
set_option linter.all false
set_option maxRecDepth 100000
set_option maxHeartbeats 4000000
/-! Dz: a law's end: the script, pots, the right, the law. -/
namespace Dz
open PySem L2
open Classical
/-- the script's number at a place within: whatever it is -/
noncomputable def cIxS (i : Nat) (b : Ex) : Ex := fun fr h kx k => slotK fr i fun d => onScr false d fun n => b fr h kx fun y h => onI false y fun j => cnd (intLt j 0) false (cnd (intLt j (.ofNat n)) (decide (∀ c : Int, k (.int c) h = true)) false)
theorem onScr_of {x : DV} {k : Nat → Bool} (h : onScr false x k = true) : ∃ n, x = .cl (.own n) ∧ k n = true := by
  cases x with
  | cl t => cases t <;> first | exact ⟨_, rfl, h⟩ | cases h
  | _ => cases h
theorem scr_of {G : Gv} {ρ : List Loc} {H : Hp} {n : Nat} {v : V} (r : RelD G ρ H (.cl (.own n)) v) : ∃ (a : Addr) (ns : List Int), v = .ref a ∧ ns.length = n ∧ n ≤ 63 ∧ SqL G.K H a (ns.map V.int) := by
  obtain ⟨a, ns, e, ⟨e2, l⟩, q⟩ := rel_cl.mp r
  cases e2
  refine ⟨a, ns, e, rfl, l, ?_⟩
  rcases q with ⟨o, q⟩ | q
  · exact .inl (.inr ⟨o, q⟩)
  · rcases q with q | q
    · rcases q with q | ⟨_, q⟩
      · cases q
      · cases q
    · exact .inr q
theorem arg1_r {as : List DV} {k : DV → Bool} (h : arg1 false as k = true) : ∃ x, as = [x] ∧ k x = true := by
  cases as with
  | nil => cases h
  | cons x r =>
    obtain ⟨e, h⟩ := cnd_and (show cnd (nilB r) (k x) false = true from h)
    rw [nilB_true e]; exact ⟨x, rfl, h⟩
section
variable {C : Sc} {e : Expr} {a : Ex} {x : Str} {i : Nat} {p pos pos2 : Pos}
theorem se_lenS (hm : C.X.mg "len" = none) (hv : PE C.X (.Name x p) (C.E (cVar i))) (hg : Gl C.X "len") (hs : starEach [.Name x p] C.X.env = (false, eval (.Name x p) C.X.env) :: starEach [] C.X.env) (hpl : (backTo pos (starEach [] C.X.env)).any (·.1) = false) :
    PE C.X (.Call (.Name "len" pos2) [.Name x p] [] pos) (C.E (cLenS i)) := by
  refine pe_imp (pe_callB call_len_seq hg hm (by rfl) (ss_cons hv ss_nil hs) (by decide) (by decide) hs hpl) fun σ H Q ⟨ρ, dh, fr, kx, k, st, xo, ko, h⟩ => ?_
  obtain ⟨d, e, h⟩ := slot_of h
  obtain ⟨n, rfl, h⟩ := onScr_of h
  refine Es_then (f := fun ds h => decide (ds = [.cl (.own n)] ∧ h = dh)) st xo ?_ fun ρ1 dh1 H1 ds vs st1 le1 r1 z1 h1 => ?_
  · show slotK fr i (fun d => decide ([d] = [.cl (.own n)] ∧ dh = dh)) = true
    unfold slotK
    rw [nth_eq, e]
    exact decide_eq_true ⟨rfl, rfl⟩
  · obtain ⟨rfl, rfl⟩ := of_decide_eq_true h1
    obtain ⟨v, rfl, r⟩ := rels1 r1
    obtain ⟨a, ns, rfl, hl, _, s⟩ := scr_of r
    rw [C.hK] at s
    refine ⟨a, _, rfl, .inl s, ?_⟩
    have : ((ns.map V.int).length : Int) = .ofNat n := by rw [List.length_map, hl]; rfl
    rw [this]
    exact (ko.later le1).now st1 (rel_int.mpr rfl) h
theorem at_int {ns : List Int} {j : Int} (h0 : 0 ≤ j) (hl : j < ns.length) : ∃ c : Int, atI (ns.map V.int) j = some (.int c) := by
  obtain ⟨m, rfl⟩ := Int.eq_ofNat_of_zero_le h0
  have hm : m < ns.length := by omega
  refine ⟨ns[m], ?_⟩
  unfold atI ixN
  rw [List.length_map]
  simp [hm]
theorem se_ixS (hv : PE C.X (.Name x p) (C.E (cVar i))) (hb : PE C.X e (C.E a)) (hs : PlainIx e) : PE C.X (.Subscript (.Name x p) e pos) (C.E (cIxS i a)) := by
  refine pe_imp (pe_ix ix_list hv hb hs) fun σ H Q ⟨ρ, dh, fr, kx, k, st, xo, ko, h⟩ => ?_
  obtain ⟨d, e, h⟩ := slot_of h
  obtain ⟨n, rfl, h⟩ := onScr_of h
  refine E_then (f := fun d h => decide (d = .cl (.own n) ∧ h = dh)) st xo ?_ fun ρ1 dh1 H1 d v st1 le1 r1 h1 => ?_
  · show slotK fr i (fun d => decide (d = .cl (.own n) ∧ dh = dh)) = true
    unfold slotK
    rw [nth_eq, e]
    exact decide_eq_true ⟨rfl, rfl⟩
  · obtain ⟨rfl, rfl⟩ := of_decide_eq_true h1
    refine E_then st1 (xo.later le1) h fun ρ2 dh2 H2 d2 v2 st2 le2 r2 h4 => ?_
    obtain ⟨j, rfl, h5⟩ := onI_of h4
    rw [rel_int] at r2; subst r2
    rcases cnd_elim h5 with ⟨_, z⟩ | ⟨z0, h5⟩
    · cases z
    obtain ⟨z1, h5⟩ := cnd_and h5
    rw [intLt_iff, decide_eq_false_iff_not] at z0
    rw [intLt_iff, decide_eq_true_iff] at z1
    have hk := of_decide_eq_true h5
    obtain ⟨a, ns, rfl, hl, _, s⟩ := scr_of (RelD.later st1.hr.plain le2 r1)
    rw [C.hK] at s
    obtain ⟨c, hc⟩ := at_int (ns := ns) (j := j) (by omega) (by rw [hl]; exact z1)
    exact ⟨a, _, j, _, rfl, rfl, s, hc, (ko.later (le1.trans le2)).now st2 (rel_int.mpr rfl) (hk c)⟩
end
section
variable {C : Sc} {e : Expr} {a : Ex} {x : Str} {i : Nat} {p pos pos2 : Pos}
theorem x_lenS (hm : C.X.mg "len" = none) (hv : PE C.X (.Name x p) (C.E (cVar i))) (hg : Gl C.X "len" := by rfl) (hs : starEach [.Name x p] C.X.env = (false, eval (.Name x p) C.X.env) :: starEach [] C.X.env := by rfl) (hpl : (backTo pos (starEach [] C.X.env)).any (·.1) = false := by rfl) : PE C.X (.Call (.Name "len" pos2) [.Name x p] [] pos) (C.E (cLenS i)) := se_lenS hm hv hg hs hpl
end
/-! ### pots -/
section
variable {P : Program} {w : World} {K : PySem.W.Frag} {mg : Str → Option Value} {base : Heap} {k j : Nat} {G : Gv} {f : Addr} {fd : FuncData} {ps : List Str} {call call' : Call} {d : He.DefD}
/-- what a pot's body wants -/
def PotB (call : Call) (j : Nat) : Prop := ∀ (dh : DH) (n : Nat) (m : Int) (kx : KX) (kk : KV), 0 ≤ m → m ≤ 1000 → (∀ x y : Int, PotOk x y → kk (.ref dh.n) (dh.new (.lst [.int x, .int y])) = true) → call j [.cl (.own n), .int m] dh kx kk = true
theorem potN_of {ds : List DV} {dh : DH} {kx : KX} {kk : KV} (h : potN ds dh kx kk = true) : ∃ (n : Nat) (m : Int), ds = [.cl (.own n), .int m] ∧ 0 ≤ m ∧ m ≤ 1000 ∧ kk (.ref dh.n) (dh.new .pot) = true := by
  cases ds with
  | nil => cases h
  | cons p r =>
    obtain ⟨m, rfl, h⟩ := arg1_r (show arg1 false r (fun m => onScr false p fun _ => onI false m fun i => cnd (intLt i 0) false (cnd (Nat.ble i.natAbs 1000) (kk (.ref dh.n) (dh.new .pot)) false)) = true from h)
    obtain ⟨n, rfl, h⟩ := onScr_of h
    obtain ⟨i, rfl, h⟩ := onI_of h
    rcases cnd_elim h with ⟨_, z⟩ | ⟨z0, h⟩
    · cases z
    obtain ⟨z1, h⟩ := cnd_and h
    rw [intLt_iff, decide_eq_false_iff_not] at z0
    have := Nat.le_of_ble_eq_true z1
    exact ⟨n, i, rfl, by omega, by omega, h⟩
theorem out_new_pot {ρ ρ' : List Loc} {H H' : Hp} {dh : DH} {x y : Int} (o : Out G ρ dh H ρ' (dh.new (.lst [.int x, .int y])) H') (h : PotOk x y) (hl : dh.n = ρ.length) : Out G ρ dh H ρ' (dh.new .pot) H' := by
  refine ⟨o.le, o.len, o.nd, fun i l hi => ?_, o.tabs, fun i hi ob q => by rw [get_new_ne _ _ (by omega)]; exact q⟩
  obtain ⟨ob, h1, h2⟩ := o.obj i l hi
  by_cases z : i = dh.n
  · subst z
    rw [get_new_same] at h1; cases h1
    obtain ⟨a, vs, e, ha, r⟩ := h2
    obtain ⟨v, w, rfl, r1, r2⟩ := rels2 r
    rw [rel_int] at r1 r2; subst r1 r2
    exact ⟨.pot, get_new_same _ _, a, x, y, e, ha, h⟩
  · rw [get_new_ne _ _ z] at h1
    exact ⟨ob, by rw [get_new_ne _ _ z]; exact h1, h2⟩
theorem fd_pot (F : FD P w K mg base k G call j f fd ps) (hb : PotB call j) (hl : ps.length = 2) (hc : ∀ ds dh kx kk, call' j ds dh kx kk = true → potN ds dh kx kk = true) : FD P w K mg base k G call' j f fd ps := by
  refine ⟨fun ds dh kx kk q => ?_, fun A outer s H args us vs Q E ρ dh ds kx kk hr hg e0 hbd r er rd ke kxx q => ?_⟩
  · obtain ⟨n, m, rfl, _⟩ := potN_of (hc _ _ _ _ q)
    rw [hl]; rfl
  · obtain ⟨n, m, rfl, h0, h1, hk⟩ := potN_of (hc _ _ _ _ q)
    refine F.run A outer s H args us vs Q E ρ dh _ noX (fun d h => decide (∃ x y : Int, PotOk x y ∧ d = .ref dh.n ∧ h = dh.new (.lst [.int x, .int y]))) hr hg e0 hbd r er rd ?_ no_exc (hb dh n m _ _ h0 h1 fun x y p => decide_eq_true ⟨x, y, p, rfl, rfl⟩)
    intro ρ' dh' H' d v o rv qq
    obtain ⟨x, y, p, rfl, rfl⟩ := of_decide_eq_true qq
    exact ke ρ' _ H' _ v (out_new_pot o p er.len) (rel_ref.mpr (rel_ref.mp rv)) hk
theorem dok_pot (D : DOk P w K mg base k G call j d ps) (hb : PotB call j) (hl : ps.length = 2) (hc : ∀ ds dh kx kk, call' j ds dh kx kk = true → potN ds dh kx kk = true) : DOk P w K mg base k G call' j d ps := by
  obtain ⟨fd, F, D⟩ := D
  exact ⟨fd, F, fd_pot D hb hl hc⟩
/-! ### the right -/
/-- it answers True -/
noncomputable def rightN (as : List DV) (h : DH) (kx : KX) (k : KV) : Bool := arg1 false as fun p => onR false p fun i => obP false (h.get i) (k (.bl true) h)
theorem fd_right (F : FD P w K mg base k G call j f fd ps) (hl : ps.length = 1) (h : call j [.ref 0] h0 noX okPot = true) (hc : ∀ ds dh kx kk, call' j ds dh kx kk = true → rightN ds dh kx kk = true) : FD P w K mg base k G call' j f fd ps := by
  have rn : ∀ {ds : List DV} {dh : DH} {kx : KX} {kk : KV}, rightN ds dh kx kk = true → ∃ i, ds = [.ref i] ∧ dh.get i = some .pot ∧ kk (.bl true) dh = true := fun {ds dh kx kk} q => by
    obtain ⟨p, rfl, q⟩ := arg1_r q
    obtain ⟨i, rfl, q⟩ := onR_of q
    obtain ⟨q1, q2⟩ := obP_of q
    exact ⟨i, rfl, q1, q2⟩
  refine ⟨fun ds dh kx kk q => ?_, fun A outer s H args us vs Q E ρ dh ds kx kk hr hg e0 hbd r er rd ke kxx q => ?_⟩
  · obtain ⟨i, rfl, _⟩ := rn (hc _ _ _ _ q)
    rw [hl]; rfl
  · obtain ⟨i, rfl, hp, hk⟩ := rn (hc _ _ _ _ q)
    obtain ⟨v, rfl, r1⟩ := rels1 rd
    obtain ⟨b, rfl, hi⟩ := rel_ref.mp r1
    obtain ⟨ob, o1, o2⟩ := er.obj i _ hi
    rw [hp] at o1; cases o1
    obtain ⟨b', x, y, e, hb, hx⟩ := o2
    cases e
    have er0 : EntR G s.heap (frs outer) [.ob b] H h0 := by
      refine ⟨rfl, fun i j l e1 e2 => ?_, fun i l e => ?_, er.tabs⟩
      · have l1 := lt_of_get e1
        have l2 := lt_of_get e2
        simp at l1 l2; omega
      · have l1 := lt_of_get e
        have : i = 0 := by simp at l1; omega
        subst this
        have : l = .ob b := by simpa using e.symm
        subst this
        exact ⟨.pot, rfl, b, x, y, rfl, hb, hx⟩
    refine F.run A outer s H args us _ Q E [.ob b] h0 [.ref 0] noX okPot hr hg e0 hbd r er0 (rels_cons.mpr ⟨_, [], rfl, rel_ref.mpr ⟨b, rfl, rfl⟩, rels_nil.mpr rfl⟩) ?_ no_exc h
    intro ρ' dh' H' d v o rv qq
    obtain ⟨t, rfl, qq⟩ := onB_of qq
    obtain ⟨rfl, qq⟩ := cnd_and qq
    obtain ⟨hp', _⟩ := obP_of qq
    rw [rel_bl] at rv; subst rv
    obtain ⟨ob, g1, g2⟩ := o.obj 0 _ (o.le.at (i := 0) (a := .ob b) rfl)
    rw [hp'] at g1; cases g1
    obtain ⟨a, x', y', e, ha, hx'⟩ := g2
    cases e
    have le : Le ρ H ρ H' := ⟨⟨[], by simp, fun _ z => absurd z (by simp)⟩, fun c u hu hn ht => o.le.keep c u hu (fun z => hn (by
      have : c = b := by simpa using z
      subst this; exact List.mem_of_getElem? hi)) ht, o.le.there, o.le.cells, o.le.lams, o.le.codes⟩
    have pl := er.plain
    refine ke ρ dh H' _ _ ⟨le, er.len, er.nd, fun q l hq => ?_, o.tabs, fun _ _ _ z => z⟩ (rel_bl.mpr rfl) hk
    obtain ⟨u, u1, u2⟩ := er.obj q l hq
    refine ⟨u, u1, ?_⟩
    have kp : ∀ c w, l = .ob c → H c = some w → (∀ ps, w ≠ .tbl ps) → c ≠ b → H' c = some w := fun c w _ hw ht hn => o.le.keep c w hw (by simpa using hn) ht
    have nb : ∀ c, l = .ob c → dh.get q ≠ some .pot → c ≠ b := fun c e hne z => by
      subst z; subst e
      have := er.nd q i _ hq hi
      subst this
      exact hne hp
    cases u with
    | lst xs =>
      obtain ⟨c, vs, e, h1, h2⟩ := u2
      exact ⟨c, vs, e, kp c _ e h1 (fun _ z => nomatch z) (nb c e (by rw [u1]; exact fun z => nomatch z)), RelDs.later pl le h2⟩
    | dic kvs =>
      obtain ⟨c, e, h1⟩ := u2
      have hc := nb c e (by rw [u1]; exact fun z => nomatch z)
      rcases h1 with ⟨ks, g0, g1, g2, g3⟩ | ⟨ks, g1, g2, g3⟩
      · exact ⟨c, e, .inl ⟨ks, g0, kp c _ e g1 (fun _ z => nomatch z) hc, g2, RelDs.later pl le g3⟩⟩
      · exact ⟨c, e, .inr ⟨ks, kp c _ e g1 (fun _ z => nomatch z) hc, g2, RelDs.later pl le g3⟩⟩
    | cell od => exact .inl ⟨lt_of_get hq, u1⟩
    | pot =>
      obtain ⟨c, x2, y2, e, h1, h2⟩ := u2
      by_cases hc : c = b
      · subst hc; exact ⟨c, x', y', e, ha, hx'⟩
      · exact ⟨c, x2, y2, e, kp c _ e h1 (fun _ z => nomatch z) hc, h2⟩
    | busy kvs =>
      obtain ⟨c, e, xs, vs, h1, h2, h3, h4, h5⟩ := u2
      exact ⟨c, e, xs, vs, kp c _ e h1 (fun _ z => nomatch z) (nb c e (by rw [u1]; exact fun z => nomatch z)), h2, RelDs.later pl le h3, RelDs.later pl le h4, h5⟩
theorem dok_right (D : DOk P w K mg base k G call j d ps) (hl : ps.length = 1) (h : call j [.ref 0] h0 noX okPot = true) (hc : ∀ ds dh kx kk, call' j ds dh kx kk = true → rightN ds dh kx kk = true) : DOk P w K mg base k G call' j d ps := by
  obtain ⟨fd, F, D⟩ := D
  exact ⟨fd, F, fd_right D hl h hc⟩
/-! ### the law -/
def spLaw (K : PySem.W.Frag) : Sp := fun vs H Q _ => ∃ (a : Addr) (ns : List Int), vs = [.ref a] ∧ SqL K H a (ns.map V.int) ∧ ns.length ≤ 63 ∧ Only H ∧ ∀ H', Q (.bl true) H'
theorem law_fn (F : FD P w K mg base k G call j f fd ps) (hl : ps.length = 1) (hK : G.K = K) (hT : G.T = []) (hgd : G.gd = false) (h : ∀ n, n < 64 → call j [.cl (.own n)] ⟨0, .e⟩ noX isT = true) : FnOk P w K mg base (L2.CX P w) k f fd ps (spLaw K) := by
  refine ⟨fun vs H Q E q => ?_, fun A outer s H args us vs Q E hr e0 hbd r q => ?_⟩
  · obtain ⟨a, ns, rfl, _⟩ := q
    rw [hl]; rfl
  · obtain ⟨a, ns, rfl, hs, hn, ho, hq⟩ := q
    have er : EntR G s.heap (frs outer) [] H ⟨0, .e⟩ := ⟨rfl, fun i j l e1 => by simp at e1, fun i l e => by simp at e, by rw [hT]; exact fun _ z => absurd z (by simp)⟩
    refine F.run A outer s H args us _ Q E [] ⟨0, .e⟩ [.cl (.own ns.length)] noX isT hr (fun z => by rw [hgd] at z; cases z) e0 hbd r er (rels_cons.mpr ⟨_, [], rfl, rel_cl.mpr ⟨a, ns, rfl, ⟨rfl, hn⟩, ?_⟩, rels_nil.mpr rfl⟩) ?_ no_exc (h _ (by omega))
    · rcases hs with hs | hs
      · rcases hs with hs | ⟨o, hs⟩
        · rcases ho a with z | ⟨o, xs, z⟩
          · rw [z] at hs; cases hs
          · rw [z] at hs; cases hs
        · exact .inl ⟨o, hs⟩
      · exact .inr (.inr (by rw [hK]; exact hs))
    · intro ρ' dh' H' d v o rv qq
      obtain ⟨t, rfl, qq⟩ := onB_of qq
      have qq : t = true := qq
      subst qq
      rw [rel_bl] at rv; subst rv
      exact hq H'
end
end Dz

set_option Elab.async false
set_option linter.all false
set_option maxRecDepth 100000
set_option maxHeartbeats 4000000
/-! Dz: the laws' pot. -/
namespace Dz
open PySem L2
open Classical
section
variable {fr : Fr} {h : DH} {i n : Nat}
theorem ev_lenS (e : nth fr i = some (some (.cl (.own n)))) : Ev (cLenS i) fr h (.int (.ofNat n)) h := fun kx k => by
  show onO false (nth fr i) (fun o => onO false o fun d => onScr false d fun n => k (.int (.ofNat n)) h) = _
  rw [e]; rfl
theorem ea_ixS {b : Ex} {j : Int} (e : nth fr i = some (some (.cl (.own n)))) (hb : Ev b fr h (.int j) h) (h0 : 0 ≤ j) (hn : j < n) : Ea (cIxS i b) fr h (fun d h' => h' = h ∧ ∃ c : Int, d = .int c) := fun kx k hk => by
  show onO false (nth fr i) (fun o => onO false o fun d => onScr false d fun n => b fr h kx fun y h => onI false y fun j => cnd (intLt j 0) false (cnd (intLt j (.ofNat n)) (decide (∀ c : Int, k (.int c) h = true)) false)) = true
  rw [e]
  show b fr h kx (fun y h => onI false y fun j => cnd (intLt j 0) false (cnd (intLt j (.ofNat n)) (decide (∀ c : Int, k (.int c) h = true)) false)) = true
  rw [hb]
  show cnd (intLt j 0) false (cnd (intLt j (.ofNat n)) (decide (∀ c : Int, k (.int c) h = true)) false) = true
  rw [intLt_iff, decide_eq_false (by omega), intLt_iff, decide_eq_true (show j < Int.ofNat n from hn)]
  exact decide_eq_true fun c => hk _ _ ⟨rfl, c, rfl⟩
theorem lt_I {a b : Int} : ltC (.int a) (.int b) h = ofB (decide (a < b)) := by
  rw [← intLt_iff]; rfl
end
/-- the pot's body, by its numbers: the cell, the pot -/
noncomputable def cellEx (A B : Nat) : Ex := (cIte (cTest (cCmp false ltC (cVar 1) (cLenS 0))) (cBc bAbs (cCons (cIxS 0 (cVar 1)) cNil)) (cBin opAdd (cBin opMul (cCst (.int (.ofNat A))) (cVar 1)) (cCst (.int (.ofNat B)))))
noncomputable def potEx (M C D E M2 : Nat) : Ex := (cLst (cCons (cBc bMax (cCons (cCst (.int (.ofNat 0))) (cCons (cBin0 (opInt subI) (cVar 2) (cBin0 (opInt powI) (cCst (.int (.ofNat 10))) (cCst (.int (.ofNat 18))))) cNil))) (cCons (cBin opAdd (cBin0 (opInt modI) (cBc bInt (cCons (cBin opAdd (cBin opAdd (cBin opMul (cBin0 (opInt modI) (cBc bInt (cCons (cVar 2) cNil)) (cCst (.int (.ofNat M)))) (cCst (.int (.ofNat C)))) (cBin opMul (cCst (.int (.ofNat D))) (cVar 1))) (cCst (.int (.ofNat E)))) cNil)) (cCst (.int (.ofNat M2)))) (cCst (.int (.ofNat 1)))) cNil)))
/-- in two statements -/
noncomputable def potBd (A B M C D E M2 : Nat) : Sx := (sSeq (sAsg (gNm 2) (cellEx A B)) (sRet (potEx M C D E M2)))
/-- .. in three -/
noncomputable def potBd3 (A B M C D E M2 : Nat) : Sx := (sSeq (sAsg (gNm 2) (cBin opAdd (cBin opMul (cCst (.int (.ofNat A))) (cVar 1)) (cCst (.int (.ofNat B))))) (sSeq (sIf (cTest (cCmp false ltC (cVar 1) (cLenS 0))) (sAsg (gNm 2) (cBc bAbs (cCons (cIxS 0 (cVar 1)) cNil))) sNil) (sRet (potEx M C D E M2))))
section
variable {A B M C D E M2 : Nat} {dh : DH} {n : Nat} {m : Int}
theorem pot_ev {c : Int} (h0 : 0 ≤ m) (h1 : m ≤ 1000) (hM : 0 < M) (hM1 : M ≤ 4294967296) (hC : C < 4294967296) (hD : D < 4294967296) (hM2 : 0 < M2) (hM3 : M2 < 4294967295) :
    ∃ x y : Int, PotOk x y ∧ Ev (potEx M C D E M2) [some (.cl (.own n)), some (.int m), some (.int c)] dh (.ref dh.n) (dh.new (.lst [.int x, .int y])) := by
  obtain ⟨u, hu⟩ : ∃ u, u = c % (M : Int) := ⟨_, rfl⟩
  have u0 : 0 ≤ u := by rw [hu]; exact Int.emod_nonneg _ (by omega)
  have u1 : u < M := by rw [hu]; exact Int.emod_lt_of_pos _ (by omega)
  obtain ⟨t, ht⟩ : ∃ t, t = (u * (C : Int) + (D : Int) * m + (E : Int)) % (M2 : Int) := ⟨_, rfl⟩
  have t0 : 0 ≤ t := by rw [ht]; exact Int.emod_nonneg _ (by omega)
  have t1 : t < M2 := by rw [ht]; exact Int.emod_lt_of_pos _ (by omega)
  have pw : opInt powI (.int (.ofNat 10)) (.int (.ofNat 18)) = some (.int 1000000000000000000) := by rfl
  have mx : bMax [.int (.ofNat 0), .int (c - 1000000000000000000)] dh = some (.int (cnd (intLt 0 (c - 1000000000000000000)) (c - 1000000000000000000) 0), dh) := rfl
  refine ⟨cnd (intLt 0 (c - 1000000000000000000)) (c - 1000000000000000000) 0, t + 1, ⟨?_, by omega, by omega⟩, ?_⟩
  · rw [intLt_iff]
    by_cases z : 0 < c - 1000000000000000000
    · rw [decide_eq_true z]; show 0 ≤ c - 1000000000000000000; omega
    · rw [decide_eq_false z]; exact Int.le_refl _
  · have e1 : Ev (cBin0 (opInt modI) (cBc bInt (cCons (cVar 2) cNil)) (cCst (.int (.ofNat M)))) [some (.cl (.own n)), some (.int m), some (.int c)] dh (.int u) dh := by
      rw [hu]; exact ev_bin0 (ev_bc (evs_cons (ev_var rfl) evs_nil) rfl) ev_cst (op_modI (by show (0 : Int) < (M : Int); omega))
    have e2 : Ev (cBin0 (opInt modI) (cBc bInt (cCons (cBin opAdd (cBin opAdd (cBin opMul (cBin0 (opInt modI) (cBc bInt (cCons (cVar 2) cNil)) (cCst (.int (.ofNat M)))) (cCst (.int (.ofNat C)))) (cBin opMul (cCst (.int (.ofNat D))) (cVar 1))) (cCst (.int (.ofNat E)))) cNil)) (cCst (.int (.ofNat M2)))) [some (.cl (.own n)), some (.int m), some (.int c)] dh (.int t) dh := by
      rw [ht]
      exact ev_bin0 (ev_bc (evs_cons (ev_bin (ev_bin (ev_bin e1 ev_cst (op_mulI (p := 32) (q := 32) (by omega) (by show C < 2 ^ 32; omega) (by decide) (by decide) (by decide))) (ev_bin ev_cst (ev_var rfl) (op_mulI (p := 32) (q := 32) (by show D < 2 ^ 32; omega) (by omega) (by decide) (by decide) (by decide))) op_addI) ev_cst op_addI) evs_nil) rfl) ev_cst (op_modI (by show (0 : Int) < (M2 : Int); omega))
    exact ev_lst (evs_cons (ev_bc (evs_cons ev_cst (evs_cons (ev_bin0 (ev_var rfl) (ev_bin0 ev_cst ev_cst pw) op_subI) evs_nil)) mx) (evs_cons (ev_bin e2 ev_cst op_addI) evs_nil))
theorem less_tv (hm : 0 ≤ m) {o : Option DV} : Tv (cTest (cCmp false ltC (cVar 1) (cLenS 0))) [some (.cl (.own n)), some (.int m), o] dh (decide (m < (n : Int))) dh := by
  have t := tv_of (ev_cmp (neg := false) (ev_var (i := 1) (fr := [some (.cl (.own n)), some (.int m), o]) (h := dh) (d := .int m) rfl) (ev_lenS (i := 0) (n := n) rfl) (lt_I (h := dh)))
  have e : cnd (decide (m < Int.ofNat n)) (not false) false = decide (m < (n : Int)) := by cases decide (m < Int.ofNat n) <;> rfl
  rw [← e]; exact t
theorem cell_ea {o : Option DV} (h0 : 0 ≤ m) (h1 : m ≤ 1000) (hA : A < 4294967296) : Ea (cellEx A B) [some (.cl (.own n)), some (.int m), o] dh (fun d h => h = dh ∧ ∃ c : Int, d = .int c) := by
  intro kx k hk
  show (cTest (cCmp false ltC (cVar 1) (cLenS 0))) [some (.cl (.own n)), some (.int m), o] dh kx (fun c h => cnd c ((cBc bAbs (cCons (cIxS 0 (cVar 1)) cNil)) _ h kx k) ((cBin opAdd (cBin opMul (cCst (.int (.ofNat A))) (cVar 1)) (cCst (.int (.ofNat B)))) _ h kx k)) = true
  rw [less_tv h0]
  by_cases z : m < (n : Int)
  · rw [decide_eq_true z]
    show (cIxS 0 (cVar 1)) [some (.cl (.own n)), some (.int m), o] dh kx (fun d h => kh (bAbs [d] h) k) = true
    refine ea_ixS rfl (ev_var rfl) h0 z kx _ fun d h' p => ?_
    obtain ⟨rfl, c, rfl⟩ := p
    exact hk _ _ ⟨rfl, _, rfl⟩
  · rw [decide_eq_false z]
    have e : Ev (cBin opAdd (cBin opMul (cCst (.int (.ofNat A))) (cVar 1)) (cCst (.int (.ofNat B)))) [some (.cl (.own n)), some (.int m), o] dh (.int ((A : Int) * m + (B : Int))) dh := ev_bin (ev_bin ev_cst (ev_var rfl) (op_mulI (p := 32) (q := 32) (by show A < 2 ^ 32; omega) (by omega) (by decide) (by decide) (by decide))) ev_cst op_addI
    show (cBin opAdd (cBin opMul (cCst (.int (.ofNat A))) (cVar 1)) (cCst (.int (.ofNat B)))) [some (.cl (.own n)), some (.int m), o] dh kx k = true
    rw [e]
    exact hk _ _ ⟨rfl, _, rfl⟩
theorem potBd_ok {inner : Call} {j : Nat} (hA : A < 4294967296) (hM : 0 < M) (hM1 : M ≤ 4294967296) (hC : C < 4294967296) (hD : D < 4294967296) (hM2 : 0 < M2) (hM3 : M2 < 4294967295) : PotB (fun _ ds dh kx kk => runFn inner (.body 2 [] 1 fun _ => potBd A B M C D E M2) ds dh kx kk) j := by
  intro dh n m kx kk h0 h1 hk
  show sSeq (sAsg (gNm 2) (cellEx A B)) (sRet (potEx M C D E M2)) [some (.cl (.own n)), some (.int m), none] dh (fun _ h => kk .non h) kk (fun c fs _ h => kx c fs h) noN noN = true
  refine sa_seq (R := fun fr h => h = dh ∧ ∃ c : Int, fr = [some (.cl (.own n)), some (.int m), some (.int c)]) (sa_asg (cell_ea h0 h1 hA) fun d h p => ?_) fun fr h p => ?_
  · obtain ⟨rfl, c, rfl⟩ := p
    exact ⟨_, _, go_nm, rfl, c, rfl⟩
  · obtain ⟨rfl, c, rfl⟩ := p
    obtain ⟨x, y, p, e⟩ := pot_ev (n := n) (dh := h) (c := c) (E := E) h0 h1 hM hM1 hC hD hM2 hM3
    rw [sr_ret e]
    exact hk x y p
theorem potBd3_ok {inner : Call} {j : Nat} (hA : A < 4294967296) (hM : 0 < M) (hM1 : M ≤ 4294967296) (hC : C < 4294967296) (hD : D < 4294967296) (hM2 : 0 < M2) (hM3 : M2 < 4294967295) : PotB (fun _ ds dh kx kk => runFn inner (.body 2 [] 1 fun _ => potBd3 A B M C D E M2) ds dh kx kk) j := by
  intro dh n m kx kk h0 h1 hk
  show sSeq (sAsg (gNm 2) (cBin opAdd (cBin opMul (cCst (.int (.ofNat A))) (cVar 1)) (cCst (.int (.ofNat B))))) (sSeq (sIf (cTest (cCmp false ltC (cVar 1) (cLenS 0))) (sAsg (gNm 2) (cBc bAbs (cCons (cIxS 0 (cVar 1)) cNil))) sNil) (sRet (potEx M C D E M2))) [some (.cl (.own n)), some (.int m), none] dh (fun _ h => kk .non h) kk (fun c fs _ h => kx c fs h) noN noN = true
  have e : Ev (cBin opAdd (cBin opMul (cCst (.int (.ofNat A))) (cVar 1)) (cCst (.int (.ofNat B)))) [some (.cl (.own n)), some (.int m), none] dh (.int ((A : Int) * m + (B : Int))) dh := ev_bin (ev_bin ev_cst (ev_var rfl) (op_mulI (p := 32) (q := 32) (by show A < 2 ^ 32; omega) (by omega) (by decide) (by decide) (by decide))) ev_cst op_addI
  refine sa_seq (R := fun fr h => h = dh ∧ ∃ c : Int, fr = [some (.cl (.own n)), some (.int m), some (.int c)]) (sa_asg (P := fun d h => h = dh ∧ ∃ c : Int, d = .int c) (ea_ev e ⟨rfl, _, rfl⟩) fun d h p => ?_) fun fr h p => ?_
  · obtain ⟨rfl, c, rfl⟩ := p
    exact ⟨_, _, go_nm, rfl, c, rfl⟩
  · obtain ⟨rfl, c, rfl⟩ := p
    refine sa_seq (R := fun fr h' => h' = h ∧ ∃ c : Int, fr = [some (.cl (.own n)), some (.int m), some (.int c)]) (fun nx rt ex bk ct hx => ?_) fun fr h' p => ?_
    · show (cTest (cCmp false ltC (cVar 1) (cLenS 0))) [some (.cl (.own n)), some (.int m), some (.int c)] h (kxOf ex [some (.cl (.own n)), some (.int m), some (.int c)]) (fun q h => cnd q ((sAsg (gNm 2) (cBc bAbs (cCons (cIxS 0 (cVar 1)) cNil))) [some (.cl (.own n)), some (.int m), some (.int c)] h nx rt ex bk ct) (nx [some (.cl (.own n)), some (.int m), some (.int c)] h)) = true
      rw [less_tv h0]
      by_cases z : m < (n : Int)
      · rw [decide_eq_true z]
        show (cIxS 0 (cVar 1)) [some (.cl (.own n)), some (.int m), some (.int c)] h (kxOf ex [some (.cl (.own n)), some (.int m), some (.int c)]) (fun d h => kh (bAbs [d] h) fun d h => nx (setAt [some (.cl (.own n)), some (.int m), some (.int c)] 2 (some d)) h) = true
        refine ea_ixS (fr := [some (.cl (.own n)), some (.int m), some (.int c)]) rfl (ev_var rfl) h0 z _ _ fun d h' p => ?_
        obtain ⟨rfl, c, rfl⟩ := p
        exact hx _ _ ⟨rfl, _, rfl⟩
      · rw [decide_eq_false z]
        exact hx _ _ ⟨rfl, c, rfl⟩
    · obtain ⟨rfl, c, rfl⟩ := p
      obtain ⟨x, y, p, e⟩ := pot_ev (n := n) (dh := h') (c := c) (E := E) h0 h1 hM hM1 hC hD hM2 hM3
      rw [sr_ret e]
      exact hk x y p
end
end Dz

set_option Elab.async false
set_option linter.all false
set_option maxRecDepth 100000
set_option maxHeartbeats 4000000
/-! Dz: the end of a law: the promise in any world. -/
namespace Dz
open PySem L2
def CXw (P : Program) : CXT := fun outer H s E u s' => ∃ w, L2.CX P w outer H s E u s'
theorem fn_any {P : Program} {w : World} {K : PySem.W.Frag} {mg : Str → Option Value} {base : Heap} {k : Nat} {f : Addr} {fd : FuncData} {ps : List Str} {sp : Sp} (F : FnOk P w K mg base (L2.CX P w) k f fd ps sp) : FnOk P w K mg base (CXw P) k f fd ps sp := by
  refine ⟨F.len, fun A outer s H args us vs Q E hr e0 hb r h => codeAny_mono (F.run A outer s H args us vs Q E hr e0 hb r h) fun r s' h => ?_⟩
  cases r with
  | error e => exact ⟨w, h⟩
  | ok fl =>
    cases fl with
    | ret u => exact h
    | next => exact h
    | brk => exact h
    | cont => exact h
theorem cx_no {P : Program} {H : Hp} {s : Shared} {e : Value} {s' : Shared} (h : CXw P [] H s (fun _ _ _ => False) e s') : False := by
  obtain ⟨w, a, B, H', cls, d, h⟩ := h
  exact h.2.2.2.2.2.2.2
theorem fd_same {K : PySem.W.Frag} {x qual x' qual' : Str} {params params' : Arguments} {body body' : List Stmt} {scope scope' : Scope} {dvs dvs' : List V} {kws kws' : List (Str × V)} {f : Addr} {fd fd' : FuncData} (F : FunD K x qual params body scope dvs kws f fd) (F' : FunD K x' qual' params' body' scope' dvs' kws' f fd') : fd = fd' := by
  obtain ⟨_, _, _, _, _, _, _, _, _, _, _, h, _⟩ := F.ex
  obtain ⟨_, _, _, _, _, _, _, _, _, _, _, h', _⟩ := F'.ex
  rw [h] at h'
  have e := Option.some.inj h'
  injection e with e1 e2 e3 e4
  injection e3
/-- what a law knows of its program: nothing beside the written part -/
def gvOf (K : PySem.W.Frag) (w : World) : Gv := ⟨K, 0, fun _ => 0, fun _ => 0, fun _ => [], fun _ => none, [], false, w⟩
theorem law_any {P : Program} {w : World} {K : PySem.W.Frag} {mg : Str → Option Value} {base : Heap} {k j : Nat} {G : Gv} {call : Call} {d : He.DefD} {ps : List Str} (hK : G.K = K) (hT : G.T = []) (hgd : G.gd = false) (D : DOk P w K mg base k G call j d ps) (hl : ps.length = 1) (h : ∀ n, n < 64 → call j [.cl (.own n)] ⟨0, .e⟩ noX isT = true) :
    ∃ fd, FunD K d.name d.qual d.params d.body d.scope (d.dvs K) (d.kws K) (He.fAd K d.at_) fd ∧ FnOk P w K mg base (CXw P) k (He.fAd K d.at_) fd ps (spLaw K) := by
  obtain ⟨fd, F, D⟩ := D
  exact ⟨fd, F, fn_any (law_fn D hl hK hT hgd h)⟩
end Dz

set_option Elab.async false
set_option linter.all false
set_option maxRecDepth 100000
set_option maxHeartbeats 4000000
/-! Dz: what is left behind is forgotten within a body; loops whose turns leave the state as it was. -/
namespace Dz
open PySem L2
section
variable {G : Gv} {X : Cx} {n0 : Ent} {cs : List Nat} {ρ1 ρ2 : List Loc} {dh1 dh2 : DH} {fr fr2 : Fr} {σ σ1 σ2 : L2.St} {H H1 H2 : Hp}
theorem ObjRel.shrink {σ' : L2.St} {i : Nat} {l : Loc} {o : DObj} (p : Pre ρ1 ρ2 ρ1) (h0 : ObjRel G X n0 cs σ ρ1 H1 i l o) (h : ObjRel G X n0 cs σ' ρ2 H2 i l o) : ObjRel G X n0 cs σ' ρ1 H2 i l o := by
  cases o with
  | lst xs =>
    obtain ⟨_, vs0, _, _, r0⟩ := h0
    obtain ⟨a, vs, h1, h2, r⟩ := h
    exact ⟨a, vs, h1, h2, RelDs.shrink p r0 r⟩
  | dic kvs =>
    obtain ⟨_, _, r0⟩ := h0
    obtain ⟨a, h1, r⟩ := h
    exact ⟨a, h1, DicAt.shrink p r0 r⟩
  | cell od =>
    obtain ⟨_, _, _, _, r0⟩ := h0
    obtain ⟨a, ov, h1, h2, r⟩ := h
    refine ⟨a, ov, h1, h2, fun d hd => ?_⟩
    obtain ⟨v0, _, r0⟩ := r0 d hd
    obtain ⟨v, e, r⟩ := r d hd
    exact ⟨v, e, RelD.shrink p r0 r⟩
  | pot => exact h
  | busy kvs =>
    obtain ⟨_, _, r0⟩ := h0
    obtain ⟨a, h1, r⟩ := h
    exact ⟨a, h1, DicN.shrink p r0 r⟩
/-- the old places alone -/
theorem st_cut (st0 : StRel G X n0 cs ρ1 dh1 fr σ1 H1) (st2 : StRel G X n0 cs ρ2 dh2 fr σ2 H2) (le : Le ρ1 H1 ρ2 H2) (same : ∀ i, i < dh1.n → dh2.get i = dh1.get i) : StRel G X n0 cs ρ1 dh1 fr σ2 H2 := by
  obtain ⟨m, em, fm⟩ := le.pre
  have p : Pre ρ1 ρ2 ρ1 := ⟨fun i hi l q => by rw [em, List.getElem?_append_left hi] at q; exact q⟩
  refine ⟨⟨st0.hr.len, st0.hr.nd, st0.hr.low, fun i l q => ?_, st2.hr.tabs⟩, fun i d e => ?_, st2.fl, st2.wl, st0.old⟩
  · have hi := lt_of_get q
    obtain ⟨ob, g1, g2⟩ := st0.hr.obj i l q
    obtain ⟨ob', k1, k2⟩ := st2.hr.obj i l (le.at q)
    rw [same i (by rw [st0.hr.len]; exact hi), g1] at k1
    cases k1
    exact ⟨ob, g1, ObjRel.shrink p g2 k2⟩
  · rcases st0.sl i d e with ⟨n, v0, e0, r0⟩ | ⟨n, c, a, x, rfl, e2, e3, e4, e5, e6, r0⟩
    · rcases st2.sl i d e with ⟨_, v, e1, r⟩ | ⟨z, _⟩
      · exact .inl ⟨n, v, e1, RelD.shrink p r0 r⟩
      · exact absurd z n
    · rcases st2.sl i _ e with ⟨z, _⟩ | ⟨_, c', a', x', hc, _, _, _, _, _, r⟩
      · exact absurd n z
      · cases hc
        refine .inr ⟨n, c, a, x, rfl, e2, e3, e4, e5, e6, fun d' hd => ?_⟩
        obtain ⟨v0, _, r0⟩ := r0 d' hd
        obtain ⟨v, e1, r⟩ := r d' (by rw [same c (by rw [st0.hr.len]; exact lt_of_get e2)]; exact hd)
        exact ⟨v, e1, RelD.shrink p r0 r⟩
theorem st_drop {drop : List Nat} (st : StRel G X n0 cs ρ1 dh1 fr σ H) : StRel G X n0 cs ρ1 dh1 (bDrop drop fr) σ H := ⟨st.hr, fun i d e => st.sl i d (bDrop_get e).2, by rw [bDrop_len]; exact st.fl, st.wl, st.old⟩
end
/-! ### equal data -/
theorem listEq_of {α : Type} {f : α → α → Bool} (hf : ∀ a b, f a b = true → a = b) : ∀ {xs ys : List α}, listEq f xs ys = true → xs = ys
  | [], ys, h => (nilB_true h).symm
  | a :: r, [], h => by cases h
  | a :: r, b :: s, h => by
    obtain ⟨h1, h2⟩ := cnd_and (show cnd (f a b) (listEq f r s) false = true from h)
    rw [hf a b h1, listEq_of hf h2]
theorem dvEq_of : ∀ (n : Nat) (x y : DV), dvEq n x y = true → x = y
  | 0, x, y, h => by cases h
  | n + 1, x, y, h => by
    have h : dvStep (dvEq n) x y = true := h
    cases x with
    | non => cases y <;> first | rfl | cases h
    | bl a =>
      obtain ⟨b, rfl, z⟩ := onB_of h
      cases a <;> cases b <;> first | rfl | cases z
    | int a =>
      obtain ⟨b, rfl, z⟩ := onI_of h
      rw [intEq_iff, decide_eq_true_iff] at z
      rw [z]
    | str a =>
      obtain ⟨b, rfl, z⟩ := onS_of h
      rw [natsEq_iff, decide_eq_true_iff] at z
      rw [z]
    | tup a =>
      obtain ⟨b, rfl, z⟩ := onT_of h
      rw [listEq_of (dvEq_of n) z]
    | ref a =>
      obtain ⟨b, rfl, z⟩ := onR_of h
      rw [Nat.eq_of_beq_eq_true z]
    | fn k a =>
      obtain ⟨l, b, rfl, z⟩ := onF_of h
      obtain ⟨h1, h2⟩ := cnd_and z
      rw [Nat.eq_of_beq_eq_true h1, listEq_of (dvEq_of n) h2]
    | exn k a =>
      obtain ⟨l, b, rfl, z⟩ := onX_of h
      obtain ⟨h1, h2⟩ := cnd_and z
      rw [Nat.eq_of_beq_eq_true h1, listEq_of (dvEq_of n) h2]
    | cl t => cases h
theorem optEq_of {o p : Option DV} (h : optEq o p = true) : o = p := by
  cases o with
  | none => cases p <;> first | rfl | cases h
  | some a =>
    cases p with
    | none => cases h
    | some b => rw [dvEq_of 30 a b h]
theorem objEq_of {o p : Option DObj} (h : objEq o p = true) : o = p := by
  cases o with
  | none => cases h
  | some x =>
    cases x with
    | lst a =>
      obtain ⟨b, rfl, h⟩ := obL_true (show obL false p (fun b => listEq (dvEq 30) a b) = true from h)
      rw [listEq_of (dvEq_of 30) h]
    | dic a =>
      obtain ⟨b, rfl, h⟩ := obD_of (show obD false p (fun b => listEq pairEq a b) = true from h)
      rw [listEq_of (fun p q z => by
        obtain ⟨z1, z2⟩ := cnd_and (show cnd (dvEq 30 p.1 q.1) (dvEq 30 p.2 q.2) false = true from z)
        exact Prod.ext (dvEq_of 30 _ _ z1) (dvEq_of 30 _ _ z2)) h]
    | cell a =>
      obtain ⟨b, rfl, h⟩ := obC_of (show obC false p (fun b => optEq a b) = true from h)
      rw [optEq_of h]
    | pot => obtain ⟨rfl, _⟩ := obP_of (show obP false p true = true from h); rfl
    | busy a => cases h
theorem same_of {drop : List Nat} {fr0 fr : Fr} {h0 h : DH} (e : sameSt drop fr0 h0 fr h = true) : bDrop drop fr = fr0 ∧ ∀ i, i < h0.n → h.get i = h0.get i := by
  obtain ⟨e1, e2⟩ := cnd_and e
  exact ⟨listEq_of (fun _ _ z => optEq_of z) e1, fun i hi => objEq_of (upTo_all.mp e2 i hi)⟩
/-! ### loops that stand -/
section
variable {C : Sc} {e tg : Expr} {es : List Expr} {sts : List Stmt} {b : Sx} {ts : Exs} {pos p : Pos} {t : Nat} {x : Str} {drop : List Nat}
theorem s_forS (hp : PassesOwn (model C.X.prog C.X.w) C.X.A C.X.env C.X.xe) (hcal : C.X.calm = true) (hg : Gl C.X "range") (hm : C.X.mg "range" = none) (ha : PA C.X [e] (C.Es 1 ts)) (hs : starEach [e] C.X.env = [(false, eval e C.X.env)])
    (hi : C.X.N[t]? = some x) (hx : L2.Loc C.X.env.scope x) (hc : t ∉ C.cs) (hd : t ∈ drop) (hf : C.X.fn x = true ∨ C.X.env.scope.names.lookup x = some .local) (hb : PSs C.X sts (C.S b)) (hss : ∀ v, foldedSetIterable (.Call (.Name "range" p) [e] [] pos) C.X.env v = pure v) {pt pf : Pos} :
    PS C.X (.For (.Name x pt) (.Call (.Name "range" p) [e] [] pos) sts [] pf) (C.S (sForS drop [] ts b)) := ps_imp (ps_for hp hcal (pi_range1 hg hm ha hs) (pg_name C.hN hi hx hf) hb hss) fun D σ H ⟨ρ, dh, fr, nx, rt, ex, bk, ct, st, kn, kr, ke, kb, kc, h⟩ => by
  refine Es_then st ke.xo h fun ρ1 dh1 H1 ds vs st1 le1 rr z1 h1 => ?_
  obtain ⟨d, rfl, h1⟩ := arg1_r h1
  obtain ⟨j, rfl, h1⟩ := onI_of h1
  obtain ⟨fs, h1⟩ := cnd_and h1
  obtain ⟨hbody, hnx⟩ := cnd_and (show cnd (b (bDrop drop fr) dh1 (fun fr' h => sameSt drop (bDrop drop fr) dh1 fr' h) rt ex noN (fun fr' h => sameSt drop (bDrop drop fr) dh1 fr' h)) (nx (bDrop drop fr) dh1) false = true from h1)
  obtain ⟨v, rfl, r1⟩ := rels1 rr
  rw [rel_int] at r1; subst r1
  obtain ⟨f1, f2⟩ := small_of fs
  refine ⟨j, rfl, f1, f2, ?_⟩
  refine ⟨fun i m σ' H' => i + m = j.toNat ∧ C.St ρ1 dh1 (bDrop drop fr) σ' H' ∧ Le ρ1 H1 ρ1 H', ⟨j.toNat, by omega, st_drop st1, Le.refl _ _⟩, fun i m σ' H' ⟨em, st', le'⟩ => ?_⟩
  cases m with
  | zero => exact .inl ⟨(show j.toNat ≤ i by omega), kn ρ1 dh1 _ σ' H' st' (le1.trans le') hnx⟩
  | succ m =>
    refine .inr ⟨(show i < j.toNat by omega), fun σ2 H2 => C.St ρ1 dh1 (bDrop drop fr) σ2 H2 ∧ Le ρ1 H1 ρ1 H2, fun σ2 H2 q => ⟨m, Nat.lt_succ_self m, by omega, q.1, q.2⟩, fun v H2 hy => ?_⟩
    obtain ⟨e1, e2⟩ := hy
    subst e1 e2
    have st3 := st_name (i := t) (d := .int (0 + (i : Int))) (v := V.int (0 + (i : Int))) st' hc (rel_int.mpr rfl)
    have st4 : C.St ρ1 dh1 (bDrop drop fr) (σ'.set t (some (V.int (0 + (i : Int))))) H2 := ⟨st3.hr, fun q d e => st3.sl q d (by
      rw [setAt_eq, List.getElem?_set_ne]
      · exact e
      · intro z; subst z; exact (bDrop_get e).1 hd), by rw [List.length_set]; exact st'.fl, st3.wl, st3.old⟩
    have again : C.KNO ρ1 H2 (fun fr' h => sameSt drop (bDrop drop fr) dh1 fr' h) (fun σ2 H3 => C.St ρ1 dh1 (bDrop drop fr) σ2 H3 ∧ Le ρ1 H1 ρ1 H3) := fun ρ2 dh2 fr2 σ2 H3 st5 le5 q => by
      obtain ⟨q1, q2⟩ := same_of q
      have st6 := st_drop (drop := drop) st5
      rw [q1] at st6
      exact ⟨st_cut st4 st6 le5 q2, le'.trans ⟨⟨[], by simp, fun _ z => absurd z (by simp)⟩, le5.keep, le5.there, le5.cells, le5.lams, le5.codes⟩⟩
    have le6 := le1.trans le'
    exact ⟨ρ1, dh1, bDrop drop fr, _, rt, ex, noN, _, st4, again, kr.later le6, ke.later le6, fun _ _ _ _ _ _ _ z => (Bool.false_ne_true z).elim, again, hbody⟩
end
end Dz

set_option Elab.async false
set_option linter.all false
set_option maxRecDepth 100000
set_option maxHeartbeats 4000000
/-! Dz: more rules for the printer. -/
namespace Dz
open PySem L2
section
variable {C : Sc} {e e2 e3 o : Expr} {es : List Expr} {a : Ex} {ts : Exs} {pos p apos cpos : Pos} {n : Nat} {x : Str}
/-- isinstance(e, (T, ..)) -/
theorem x_isinT {ns : List String} {j : Nat} {tp : Pos} {sub : Ty → Bool} (hm : C.X.mg "isinstance" = none) (he : PE C.X e (C.E a)) (hc : TyEs C.X es ns) (hs : (plainTys.all fun t => ns.all (fun m => (kitB (tyName t) m).isSome) && ((ns.any fun m => (kitB (tyName t) m).getD false) == sub t)) = true) (hg : Gl C.X "isinstance" := by rfl) (hn : Nat.ble ns.length 100 = true := by rfl)
    (h1 : starEach (e :: [.Tuple es j tp]) C.X.env = (false, eval e C.X.env) :: starEach [.Tuple es j tp] C.X.env := by rfl) (h2 : starEach (.Tuple es j tp :: []) C.X.env = (false, eval (.Tuple es j tp) C.X.env) :: starEach [] C.X.env := by rfl) (hpl : (backTo pos (starEach [.Tuple es j tp] C.X.env)).any (·.1) = false := by rfl) :
    PE C.X (.Call (.Name "isinstance" p) [e, .Tuple es j tp] [] pos) (C.E (cIsin sub a)) := by
  refine se_isinT hg hm (by rfl) he hc (Nat.le_of_ble_eq_true hn) (fun t ht => ?_) h1 h2 hpl
  have := List.all_eq_true.mp hs t ht
  rw [Bool.and_eq_true] at this
  refine ⟨fun m => (kitB (tyName t) m).getD false, fun m hmm => ?_, eq_of_beq this.2⟩
  have q := List.all_eq_true.mp this.1 m hmm
  cases z : kitB (tyName t) m with
  | none => rw [z] at q; cases q
  | some b =>
    show some b = some ((kitB (tyName t) m).getD false)
    rw [z]; rfl
theorem ty_nil : TyEs C.X [] [] := .nil
theorem ty_cons {T : String} {ns : List String} (hm : C.X.mg x = none) (t : TyEs C.X es ns) (hg : Gl C.X x := by rfl) (hv : bootBuiltins x = some (.type T) := by rfl) (hn : x ≠ "__name__" := by decide) (hd : (x == ("__debug__" : Str)) = false := by rfl) (hs : starEach (.Name x p :: es) C.X.env = (false, eval (.Name x p) C.X.env) :: starEach es C.X.env := by rfl) : TyEs C.X (.Name x p :: es) (T :: ns) := .cons (x_ty hm hg hv hn hd) hs t
theorem i_zip {elts : List Expr} {kk : Nat} {tpos : Pos} (hm : C.X.mg "zip" = none) (ha : PA C.X [e, e2] (C.Es 2 ts)) (hg : Gl C.X "zip" := by rfl)
    (hs : starEach [e, e2] C.X.env = (false, eval e C.X.env) :: starEach [e2] C.X.env := by rfl) (hpl : (backTo pos (starEach [e2] C.X.env)).any (·.1) = false := by rfl) :
    PI C.X (.Tuple elts kk tpos) (.Call (.Name "zip" p) [e, e2] [] pos) (C.I (iZip ts)) := si_zip hg hm ha hs hpl
theorem x_extend (ho : PE C.X o (C.E a)) (ha : PA C.X (e :: es) (C.Es n ts))
    (h1 : attributeBase o "extend" C.X.env (eval o C.X.env) = eval o C.X.env := by rfl)
    (h2 : ((backTo cpos (starEach (e :: es) C.X.env)).all (fun x => !x.1) && (backToKw cpos (keywordEach [] C.X.env)).all (fun x => x.1.isSome)
      && decide ((e :: es).length + ([] : List Keyword).length + (if ([] : List Keyword).isEmpty then 0 else 1) < 30)) = true := by rfl)
    (h3 : (apos.endLine == cpos.line) = true := by rfl) (h4 : starEach (e :: es) C.X.env = (false, eval e C.X.env) :: starEach es C.X.env := by rfl) (h5 : (backTo cpos (starEach es C.X.env)).any (·.1) = false := by rfl) :
    PE C.X (.Call (.Attribute o "extend" apos) (e :: es) [] cpos) (C.E (cML mExtend a ts)) := se_mL PySem.F.slot_list_extend PySem.F.type_list_extend ok_extend ho ha ⟨h1, h2, h3, h4, h5⟩
theorem x_pop0 (ho : PE C.X o (C.E a)) (h1 : attributeBase o "pop" C.X.env (eval o C.X.env) = eval o C.X.env := by rfl) (h3 : (apos.endLine == cpos.line) = true := by rfl) :
    PE C.X (.Call (.Attribute o "pop" apos) [] [] cpos) (C.E (cML mPopL a cNil)) := se_mL0 PySem.F.slot_list_pop PySem.F.type_list_pop ok_popL ho h1 h3
theorem x_popM (ho : PE C.X o (C.E a)) (ha : PA C.X (e :: es) (C.Es n ts)) (hu : C.X.A.units + 1 < cLine)
    (h1 : attributeBase o "pop" C.X.env (eval o C.X.env) = eval o C.X.env := by rfl)
    (h2 : ((backTo cpos (starEach (e :: es) C.X.env)).all (fun x => !x.1) && (backToKw cpos (keywordEach [] C.X.env)).all (fun x => x.1.isSome)
      && decide ((e :: es).length + ([] : List Keyword).length + (if ([] : List Keyword).isEmpty then 0 else 1) < 30)) = true := by rfl)
    (h3 : (apos.endLine == cpos.line) = true := by rfl) (h4 : starEach (e :: es) C.X.env = (false, eval e C.X.env) :: starEach es C.X.env := by rfl) (h5 : (backTo cpos (starEach es C.X.env)).any (·.1) = false := by rfl) :
    PE C.X (.Call (.Attribute o "pop" apos) (e :: es) [] cpos) (C.E (cMt mPopL mPopD a ts)) := se_mt PySem.F.slot_list_pop PySem.F.type_list_pop PySem.F.slot_dict_pop PySem.F.type_dict_pop ok_popL (ok_popD hu) ho ha ⟨h1, h2, h3, h4, h5⟩
theorem x_get (ho : PE C.X o (C.E a)) (ha : PA C.X (e :: es) (C.Es n ts)) (hu : C.X.A.units + 1 < cLine)
    (h1 : attributeBase o "get" C.X.env (eval o C.X.env) = eval o C.X.env := by rfl)
    (h2 : ((backTo cpos (starEach (e :: es) C.X.env)).all (fun x => !x.1) && (backToKw cpos (keywordEach [] C.X.env)).all (fun x => x.1.isSome)
      && decide ((e :: es).length + ([] : List Keyword).length + (if ([] : List Keyword).isEmpty then 0 else 1) < 30)) = true := by rfl)
    (h3 : (apos.endLine == cpos.line) = true := by rfl) (h4 : starEach (e :: es) C.X.env = (false, eval e C.X.env) :: starEach es C.X.env := by rfl) (h5 : (backTo cpos (starEach es C.X.env)).any (·.1) = false := by rfl) :
    PE C.X (.Call (.Attribute o "get" apos) (e :: es) [] cpos) (C.E (cMD mGet a ts)) := se_mD PySem.F.slot_dict_get PySem.F.type_dict_get (ok_get hu) ho ha ⟨h1, h2, h3, h4, h5⟩
theorem z_forS {sts : List Stmt} {b : Sx} {t : Nat} {drop : List Nat} {pt pf : Pos} (hm : C.X.mg "range" = none) (ha : PA C.X [e] (C.Es 1 ts)) (hb : PSs C.X sts (C.S b)) (hp : PassesOwn (model C.X.prog C.X.w) C.X.A C.X.env C.X.xe := by exact passes_of rfl) (hcal : C.X.calm = true := by rfl) (hg : Gl C.X "range" := by rfl) (hs : starEach [e] C.X.env = [(false, eval e C.X.env)] := by rfl)
    (hi : C.X.N[t]? = some x := by rfl) (hx : locB (C.X.env.scope.names.lookup x) = true := by rfl) (hc : List.elem t C.cs = false := by rfl) (hd : List.elem t drop = true := by rfl) (hf : C.X.fn x = true := by rfl) (hss : ∀ v, foldedSetIterable (.Call (.Name "range" p) [e] [] pos) C.X.env v = pure v := by intro _; rfl) :
    PS C.X (.For (.Name x pt) (.Call (.Name "range" p) [e] [] pos) sts [] pf) (C.S (sForS drop [] ts b)) := s_forS (t := t) hp hcal hg hm ha hs hi (locB_ok hx) (nin hc) (List.elem_iff.mp hd) (.inl hf) hb hss
end
end Dz

set_option Elab.async false
set_option linter.all false
set_option maxRecDepth 100000
set_option maxHeartbeats 2000000
/-! Dz: dicts with keys of any depth, in the model. The proofs of dictSet_E, setItem_E follow the library's for HeapKind, the epoch kept in sight. -/
namespace Dz
open PySem L2 PyProof.Rows
section
variable {prog : Program} {w : World} {A : Around} {E : Value → Shared → Prop} {s : Shared} {d a : Addr} {k : NestedKey} {v : Value} {xs : List (NestedKey × Addr × Value)}
/-- the dict at d by its entries; as many turns of its keys as there are -/
def DE (prog : Program) (w : World) (h : Heap) (d : Addr) (xs : List (NestedKey × Addr × Value)) : Prop :=
  ∃ o es ep, h.get? d = some o ∧ o.ExactDict ∧ o.data = .dict es ep ∧ ep = xs.length ∧ es.toList = xs.map (entryOfKey (nestedKind prog w)) ∧ (∀ x ∈ xs, (nestedKind prog w).is h x.1 x.2.1) ∧ (xs.map (·.1)).Nodup
theorem DE.typeIs (hm : DE prog w s.heap d xs) : s.TypeIs (.ref d) "dict" := let ⟨o, _, _, ho, hc, _⟩ := hm; ⟨o, ho, hc.1⟩
theorem dictSet_E {Q : Unit → Shared → Prop} (hu : A.units + 8 < cLine) (hkey : (nestedKind prog w).is s.heap k a) (hm : DE prog w s.heap d xs)
    (hQ : ∀ h' tk, DE prog w h' d (storedH xs k a v) → Heap.SameBut d s.heap h' → Q () { s with heap := h', toks := tk }) (hsz : xs.length ≤ sizeLine) :
    wpAny (model prog w) A (dictSet d (.ref a) v) Q E s := by
  obtain ⟨o, es, ep, ho, hc, hd, hp, he, his, hn⟩ := hm
  unfold dictSet
  try with_reducible refine wpAny_holding ?_
  refine wpAny_bind ((nestedKind prog w).pyHash hu hkey ?_)
  unfold dictSetHashed
  try with_reducible refine wpAny_holding ?_
  refine wpAny_bind (wpAny_dictFind_heap (s := { s with toks := s.toks + (nestedKind prog w).draws k }) hu hkey ho hd he his hn ?_ ?_)
  · intro hno
    have hnot : k ∉ xs.map (·.1) := not_mem_keys_of_get hno
    refine wpAny_bind (wpAny_rule (wpAny_updateDictKeys (hz := by have e := size_of_entries he; omega) (s := { s with toks := s.toks + (nestedKind prog w).draws k }) ho hd (hQ _ _ ⟨_, _, ep + 1, Heap.get?_update_self _ ho (Obj.isFreed_of_dict (Obj.data_mapDictKeys hd _)),
      hc.mapDictKeys _, Obj.data_mapDictKeys hd _, ?_, ?_, ?_, ?_⟩ (Heap.SameBut.update ..))))
    · rw [storedH_new (atKey_none_of_get hno), List.length_append, hp]; rfl
    · rw [storedH_new (atKey_none_of_get hno)]
      simp [he, entryOfKey]
    · rw [storedH_new (atKey_none_of_get hno)]
      intro x hx
      rcases List.mem_append.mp hx with hx | hx
      · exact (nestedKind prog w).keeps (his x hx) ho hd (Heap.SameBut.update ..)
      · simp only [List.mem_singleton] at hx
        subst hx
        exact (nestedKind prog w).keeps hkey ho hd (Heap.SameBut.update ..)
    · rw [storedH_new (atKey_none_of_get hno)]
      rw [List.map_append, List.nodup_append]
      refine ⟨hn, by simp, ?_⟩
      intro x hx y hy
      simp only [List.map_cons, List.map_nil, List.mem_singleton] at hy
      subst hy
      exact fun e => hnot (e ▸ hx)
  · intro j p hj
    refine wpAny_bind (wpAny_rule (wpAny_bind (wpAny_updateDict (s := { s with toks := s.toks + (nestedKind prog w).draws k }) ho hd (wpAny_point (hQ _ _ ⟨_, _, ep, Heap.get?_update_self _ ho (Obj.isFreed_of_dict (Obj.data_mapDict hd _)),
      hc.mapDict _, Obj.data_mapDict hd _, ?_, ?_, ?_, ?_⟩ (Heap.SameBut.update ..))))))
    · rw [storedH_old (atKey_of_get hn hj), List.length_map]; exact hp
    · rw [storedH_old (atKey_of_get hn hj)]
      have := modify_map_putAt (entryOfKey (nestedKind prog w)) (fun e : DictEntry => { e with val := v }) k v (fun _ _ => rfl) hn hj
      rw [← he] at this
      obtain ⟨l⟩ := es
      simpa using this
    · rw [storedH_old (atKey_of_get hn hj)]
      intro x hx
      obtain ⟨y, hy, rfl⟩ := List.mem_map.mp hx
      unfold putAt
      split <;> exact (nestedKind prog w).keeps (his y hy) ho hd (Heap.SameBut.update ..)
    · rw [storedH_old (atKey_of_get hn hj)]
      rw [keys_map_putAt]; exact hn
theorem setItem_E {Q : Unit → Shared → Prop} (hu : A.units + 9 < cLine) (hkey : (nestedKind prog w).is s.heap k a) (hm : DE prog w s.heap d xs)
    (hQ : ∀ h' tk, DE prog w h' d (storedH xs k a v) → Heap.SameBut d s.heap h' → Q () { s with heap := h', toks := tk }) (hsz : xs.length ≤ sizeLine) :
    wpAny (model prog w) A (setItem (.ref d) (.ref a) v) Q E s := by
  unfold setItem
  try with_reducible refine wpAny_holding ?_
  refine wpAny_bind (wpAny_sequenceKey hm.typeIs (by decide) ?_)
  refine wpAny_bind (wpAny_callSpecial?_slot (name := Str.ofString "__setitem__") hm.typeIs PySem.F.slot_dict_setitem
    (wpAny_call_entry PySem.F.slot_dict_setitem hm.typeIs PySem.F.entry_dict_setitem ?_ (PySem.args_dict_setitem _ _ _)))
  show wpAny _ _ (Builtin.Dict.notOrdered "__setitem__" ⟨[.ref d, .ref a, v], []⟩ >>= _) _ _ s
  refine wpAny_bind (wpAny_notOrdered_dict hm.typeIs ?_)
  show wpAny _ _ (dictSet d (.ref a) v >>= _) _ _ s
  exact wpAny_bind (dictSet_E (A := A.in1) (by show A.units + 1 + 8 < cLine; omega) hkey hm (fun h' tk hm' hs' => wpAny_pure ⟨.none, rfl, wpAny_pure (hQ h' tk hm' hs')⟩) hsz)
end
end Dz

set_option Elab.async false
set_option linter.all false
set_option maxRecDepth 100000
set_option maxHeartbeats 2000000
/-! Dz: dicts with keys of any depth: the relation; stores. -/
namespace Dz
open PySem L2 PyProof.Rows
/-- what stands at a is no cell, no lambda, no code -/
def Free (H : Hp) (a : Addr) : Prop := (∀ o, H a ≠ some (CellO a o)) ∧ (∀ L cl c, H a ≠ some (LamO a L cl c)) ∧ ∀ q, H a ≠ some (LamX.CodeO a q)
section
variable {X : Cx} {pins : List (Addr × Obj)} {σ : L2.St} {H : Hp} {s : Shared} {a : Addr} {xs : List (NestedKey × Addr × Value)}
theorem free_dic (I : Inv X pins σ H s) (e : H a = some (DicNO X.w a xs)) : Free H a := by
  obtain ⟨⟨_, o, es, ho, hc, hd, he⟩, _⟩ := (show ObjOk X.prog X.w H s.heap a (DicNO X.w a xs) from I.hok a _ e)
  refine ⟨fun ob z => ?_, fun L cl c z => ?_, fun q z => ?_⟩
  · obtain ⟨⟨h1, w, h2⟩, _⟩ := (show ObjOk X.prog X.w H s.heap a (CellO a ob) from I.hok a _ z)
    rw [ho] at h1; cases h1; rw [hd] at h2; cases h2
  · obtain ⟨⟨pm, ct, h1⟩, _⟩ := (show ObjOk X.prog X.w H s.heap a (LamO a L cl c) from I.hok a _ z)
    rw [ho] at h1; cases h1; cases hd
  · obtain ⟨⟨oc, vs, t, h1, h2, _⟩, _⟩ := (show ObjOk X.prog X.w H s.heap a (LamX.CodeO a q) from I.hok a _ z)
    rw [ho] at h1; cases h1; rw [hd] at h2; cases h2
end
section
variable {P : Program} {w : World} {H : Hp} {h : Heap} {a : Addr} {xs : List (NestedKey × Addr × Value)}
theorem dn_of (ok : HOk P w H h) (e : H a = some (DicNO w a xs)) : ((a == sysModules) = false ∧ xs.length ≤ sizeLine ∧ (xs.map (·.1)).Nodup) ∧
    ∃ o es, h.get? a = some o ∧ o.ExactDict ∧ o.data = .dict es xs.length ∧ es.toList = xs.map fun x => ⟨x.1.hash w, .ref x.2.1, x.2.2⟩ := by
  obtain ⟨p, _⟩ := (show ObjOk P w H h a (DicNO w a xs) from ok a _ e)
  exact p
theorem de_of (ok : HOk P w H h) (e : H a = some (DicNO w a xs)) (hk : ∀ x ∈ xs, (nestedKind P w).is h x.1 x.2.1) : DE P w h a xs := by
  obtain ⟨⟨hs, hl, hn⟩, o, es, ho, hc, hd, he⟩ := dn_of ok e
  exact ⟨o, es, _, ho, hc, hd, rfl, he, hk, hn⟩
theorem dn_ok {H' : Hp} (d : DE P w h a xs) (hs : (a == sysModules) = false) (hl : xs.length ≤ sizeLine) : ObjOk P w H' h a (DicNO w a xs) := by
  obtain ⟨o, es, ep, ho, hc, hd, hp, he, hk, hn⟩ := d
  subst hp
  refine ⟨⟨⟨hs, hl, hn⟩, o, es, ho, hc, hd, he⟩, ⟨o, ho⟩, fun h1 h2 ⟨k, ob, es', ho', r⟩ st => ⟨k, ob, es', st ob ho', r⟩⟩
end
def rSetN (X : Cx) : TSet := fun o i v H Q => ∃ a b k xs, o = V.ref a ∧ i = V.ref b ∧ H a = some (DicNO X.w a xs) ∧ xs.length < sizeLine ∧ (∀ h, HOk X.prog X.w H h → (nestedKind X.prog X.w).is h k b ∧ ∀ x ∈ xs, (nestedKind X.prog X.w).is h x.1 x.2.1) ∧
  (Free H a → ∀ u, RelV v u → Q (L2.upd H a (DicNO X.w a (storedH xs k b u))))
theorem storedH_len (xs : List (NestedKey × Addr × Value)) (k : NestedKey) (b : Addr) (u : Value) : (storedH xs k b u).length ≤ xs.length + 1 := by
  unfold storedH
  split
  · rw [List.length_map]; omega
  · rw [List.length_append]; simp
theorem set_N {X : Cx} (hu : X.A.units + 9 < cLine) : PSet X (rSetN X) := by
  intro pins s σ H o i v ov iv u Q I ro ri rv ⟨a, b, k, xs, e1, e2, e, hl, hk, q⟩
  subst e1 e2
  cases ro; cases ri
  obtain ⟨hk1, hk2⟩ := hk s.heap I.hok
  refine setItem_E hu hk1 (de_of I.hok e hk2) (fun h' tk d' hs' => ⟨_, ?_, q (free_dic I e) u rv⟩) (Nat.le_of_lt hl)
  have he : ∃ q, h'.get? a = some q := let ⟨q, _, _, hq, _⟩ := d'; ⟨q, hq⟩
  exact d_write I (by rw [e]; exact True.intro) hs' he (dn_ok d' (dn_of I.hok e).1.1 (Nat.le_trans (storedH_len xs k b u) hl))
/-! ### keys -/
theorem nested_tup {P : Program} {w : World} {H : Hp} {h : Heap} {a : Addr} {vs : List V} (ok : HOk P w H h) (e : H a = some (.tup vs)) : ∃ its o n, Vals vs its ∧ h.get? a = some o ∧ o.cls = .type "tuple" ∧ o.data = .seq its.toArray n := by
  obtain ⟨_, its, r, o, h1, h2, n, h3⟩ := (show ObjOk P w H h a (.tup vs) from ok a _ e)
  exact ⟨its, o, n, r, h1, h2, h3⟩
theorem toN_tup {n : Nat} {xs : List DV} {k : NestedKey} (e : toN (n + 1) (.tup xs) = some k) : ∃ ks, xs.mapM (toN n) = some ks ∧ k = .tup ks := by
  have e : (xs.mapM (toN n)).map NestedKey.tup = some k := e
  cases q : xs.mapM (toN n) with
  | none => rw [q] at e; cases e
  | some ks => rw [q] at e; cases e; exact ⟨ks, rfl, rfl⟩
theorem mapM_cons {f : DV → Option NestedKey} {x : DV} {xs : List DV} {ks : List NestedKey} (e : (x :: xs).mapM f = some ks) : ∃ k r, f x = some k ∧ xs.mapM f = some r ∧ ks = k :: r := by
  rw [List.mapM_cons] at e
  cases q : f x with
  | none => rw [q] at e; cases e
  | some k =>
    rw [q] at e
    cases q2 : xs.mapM f with
    | none => rw [q2] at e; cases e
    | some r => rw [q2] at e; cases e; exact ⟨k, r, rfl, rfl, rfl⟩
theorem nested_of {P : Program} {w : World} {G : Gv} {ρ : List Loc} {H : Hp} {h : Heap} (ok : HOk P w H h) : ∀ (n : Nat) {d : DV} {v : V} {u : Value} {k : NestedKey}, RelD G ρ H d v → RelV v u → toN n d = some k → NestedIs h k u ∧ k.depth ≤ n
  | 0, d, v, u, k, r, rv, e => by cases e
  | n + 1, d, v, u, k, r, rv, e => by
    have all : ∀ (xs : List DV) (vs : List V) (us : List Value) (ks : List NestedKey), RelDs G ρ H xs vs → Vals vs us → xs.mapM (toN n) = some ks → NestedAll h ks us ∧ NestedKey.depthAll ks ≤ n := by
      intro xs
      induction xs with
      | nil =>
        intro vs us ks r rv e
        rw [rels_nil] at r; subst r
        cases rv
        cases e
        exact ⟨.nil, by simp [NestedKey.depthAll]⟩
      | cons x xs ih =>
        intro vs us ks r rv e
        obtain ⟨v, r', rfl, r1, r2⟩ := rels_cons.mp r
        obtain ⟨k, ks', e1, e2, rfl⟩ := mapM_cons e
        cases rv with
        | cons q1 q2 =>
          obtain ⟨g1, g2⟩ := nested_of ok n r1 q1 e1
          obtain ⟨g3, g4⟩ := ih _ _ _ r2 q2 e2
          exact ⟨.cons g1 g3, by rw [NestedKey.depthAll]; omega⟩
    cases d with
    | non =>
      cases e
      rw [rel_non] at r; subst r
      have rv : u = Value.none := rv
      subst rv
      exact ⟨.none, by rw [NestedKey.depth]; omega⟩
    | int i =>
      cases e
      rw [rel_int] at r; subst r
      obtain ⟨t, rfl⟩ := (show ∃ t, u = Value.int i t from rv)
      exact ⟨.int i t, by rw [NestedKey.depth]; omega⟩
    | str x =>
      cases e
      rw [rel_str] at r; subst r
      obtain ⟨t, rfl⟩ := (show ∃ t, u = Value.str _ t from rv)
      exact ⟨.text _ t, by rw [NestedKey.depth]; omega⟩
    | tup xs =>
      obtain ⟨ks, e1, rfl⟩ := toN_tup e
      obtain ⟨a, vs, rfl, ha, rr⟩ := rel_tup.mp r
      have rv : u = Value.ref a := rv
      subst rv
      obtain ⟨its, o, m, g1, g2, g3, g4⟩ := nested_tup ok ha
      obtain ⟨g5, g6⟩ := all xs vs its ks rr g1 e1
      exact ⟨.tup g2 g3 g4 (by simpa using g5), by rw [NestedKey.depth]; omega⟩
    | bl b => cases e
    | ref i => cases e
    | fn k c => cases e
    | exn k c => cases e
    | cl t => cases e
/-- unlike data are unlike keys -/
theorem toN_inj : ∀ (n : Nat) {x y : DV} {k : NestedKey}, toN n x = some k → toN n y = some k → x = y
  | 0, x, y, k, e, _ => by cases e
  | n + 1, x, y, k, e, e' => by
    have all : ∀ (xs ys : List DV) (ks : List NestedKey), xs.mapM (toN n) = some ks → ys.mapM (toN n) = some ks → xs = ys := by
      intro xs
      induction xs with
      | nil =>
        intro ys ks e e'
        cases e
        cases ys with
        | nil => rfl
        | cons y ys => obtain ⟨_, _, _, _, z⟩ := mapM_cons e'; cases z
      | cons x xs ih =>
        intro ys ks e e'
        obtain ⟨k, r, e1, e2, rfl⟩ := mapM_cons e
        cases ys with
        | nil => cases e'
        | cons y ys =>
          obtain ⟨k', r', e3, e4, z⟩ := mapM_cons e'
          cases z
          rw [toN_inj n e1 e3, ih ys _ e2 e4]
    cases x with
    | non => cases e; cases y <;> first | rfl | cases e' | (obtain ⟨_, _, z⟩ := toN_tup e'; cases z)
    | int i => cases e; cases y <;> first | (cases e'; rfl) | cases e' | (obtain ⟨_, _, z⟩ := toN_tup e'; cases z)
    | str s =>
      cases e
      cases y with
      | str s' =>
        have z : (some (NestedKey.text ⟨s'.toArray⟩)) = some (NestedKey.text ⟨s.toArray⟩) := e'
        injection z with z
        injection z with z
        injection z with z
        have z2 := congrArg Array.toList z
        simp at z2
        rw [z2]
      | tup ys => obtain ⟨_, _, z⟩ := toN_tup e'; cases z
      | _ => cases e'
    | tup xs =>
      obtain ⟨ks, e1, rfl⟩ := toN_tup e
      cases y with
      | tup ys =>
        obtain ⟨ks', e2, z⟩ := toN_tup e'
        cases z
        rw [all xs ys ks e1 e2]
      | _ => cases e'
    | bl b => cases e
    | ref i => cases e
    | fn k c => cases e
    | exn k c => cases e
    | cl t => cases e
/-- a key that may be stored -/
noncomputable def isN (n : Nat) : DV → Bool := Nat.rec (motive := fun _ => DV → Bool) (fun _ => false) (fun _ ih x => DV.casesOn x true (fun _ => false) (fun _ => true) (fun _ => true) (fun xs => allL ih xs) (fun _ => false) (fun _ _ => false) (fun _ _ => false) (fun _ => false)) n
theorem isN_some : ∀ (n : Nat) {x : DV}, isN n x = true → ∃ k, toN n x = some k
  | 0, x, h => by cases h
  | n + 1, x, h => by
    have all : ∀ xs : List DV, allL (isN n) xs = true → ∃ ks, xs.mapM (toN n) = some ks := by
      intro xs
      induction xs with
      | nil => intro _; exact ⟨[], rfl⟩
      | cons x xs ih =>
        intro h
        obtain ⟨h1, h2⟩ := cnd_and (show cnd (isN n x) (allL (isN n) xs) false = true from h)
        obtain ⟨k, e⟩ := isN_some n h1
        obtain ⟨ks, e2⟩ := ih h2
        exact ⟨k :: ks, by rw [List.mapM_cons, e, e2]; rfl⟩
    cases x with
    | non => exact ⟨_, rfl⟩
    | int i => exact ⟨_, rfl⟩
    | str s => exact ⟨_, rfl⟩
    | tup xs =>
      obtain ⟨ks, e⟩ := all xs h
      exact ⟨.tup ks, by show (xs.mapM (toN n)).map NestedKey.tup = _; rw [e]; rfl⟩
    | _ => cases h
theorem natsEq_self (s : List Nat) : natsEq s s = true := by rw [natsEq_iff]; simp
theorem dvEq_self : ∀ (n m : Nat) {x : DV} {k : NestedKey}, toN n x = some k → n ≤ m → dvEq m x x = true
  | 0, m, x, k, e, _ => by cases e
  | n + 1, 0, x, k, e, h => by omega
  | n + 1, m + 1, x, k, e, h => by
    have all : ∀ (xs : List DV) (ks : List NestedKey), xs.mapM (toN n) = some ks → listEq (dvEq m) xs xs = true := by
      intro xs
      induction xs with
      | nil => intro _ _; rfl
      | cons x xs ih =>
        intro ks e
        obtain ⟨k, r, e1, e2, rfl⟩ := mapM_cons e
        show cnd (dvEq m x x) (listEq (dvEq m) xs xs) false = true
        rw [dvEq_self n m e1 (by omega), ih r e2]; rfl
    cases x with
    | non => rfl
    | int i => show intEq i i = true; rw [intEq_iff]; simp
    | str s => exact natsEq_self s
    | tup xs =>
      obtain ⟨ks, e1, rfl⟩ := toN_tup e
      exact all xs ks e1
    | bl b => cases e
    | ref i => cases e
    | fn k c => cases e
    | exn k c => cases e
    | cl t => cases e
theorem dvEq_key {x y : DV} {k l : NestedKey} (e : toN 8 x = some k) (e' : toN 8 y = some l) : dvEq 30 x y = decide (k = l) := by
  by_cases z : k = l
  · subst z
    rw [toN_inj 8 e e', dvEq_self 8 30 e' (by decide)]; simp
  · rw [decide_eq_false z]
    cases q : dvEq 30 x y with
    | false => rfl
    | true =>
      have := dvEq_of 30 x y q
      subst this
      rw [e] at e'; cases e'; exact absurd rfl z
end Dz

set_option Elab.async false
set_option linter.all false
set_option maxRecDepth 100000
set_option maxHeartbeats 2000000
/-! Dz: dicts with keys of any depth: d[k] = v, {}, {k: v}, walks. -/
namespace Dz
open PySem L2 PyProof.Rows
noncomputable section
def hasN (x : DV) (kvs : List DP) : Bool := anyL (fun p => dvEq 30 p.1 x) kvs
def putN (x d : DV) (kvs : List DP) : List DP := cnd (hasN x kvs) (mapL (fun p => cnd (dvEq 30 p.1 x) (p.1, d) p) kvs) (app kvs [(x, d)])
def storeN (x d : DV) (kvs : List DP) : Option (List DP) := cnd (isTup x) (cnd (isN 8 x) (cnd (fits (Nat.succ (lenN kvs))) (some (putN x d kvs)) none) none) none
def setIxN (o i v : DV) (h : DH) : Option DH := onR none o fun a => obN none (h.get a) fun kvs => onO none (storeN i v kvs) fun q => some (h.put a (.busy q))
def gIxN (o i : Ex) : Gx := fun d fr h k => o fr h noK fun x h => i fr h noK fun y h => onO false (setIxN x y d h) fun h => k fr h
def cDicN0 : Ex := fun fr h kx k => k (.ref h.n) (h.new (.busy []))
/-- {k: v} -/
def cDicN1 (a b : Ex) : Ex := fun fr h kx k => a fr h kx fun x h => b fr h kx fun y h => cnd (isTup x) (cnd (isN 8 x) (k (.ref h.n) (h.new (.busy [(x, y)]))) false) false
def iKeysN (a : Ex) : Ix := fun fr h kx k => a fr h kx fun x h => onR false x fun i => obN false (h.get i) fun kvs => k (.keys i (lenN kvs)) h
end
section
variable {G : Gv} {ρ : List Loc} {H : Hp}
theorem nrel_nil {vs : List V} : NRel G ρ H [] [] vs ↔ vs = [] := ⟨fun h => rels_nil.mp h.vals, fun e => by subst e; exact ⟨rfl, rels_nil.mpr rfl, rels_nil.mpr rfl, .nil⟩⟩
theorem nrel_cons {p : DP} {kvs : List DP} {x : NestedKey × Addr × Value} {xs : List (NestedKey × Addr × Value)} {vs : List V} : NRel G ρ H (p :: kvs) (x :: xs) vs ↔
    ∃ v r, vs = v :: r ∧ toN 8 p.1 = some x.1 ∧ RelD G ρ H p.1 (.ref x.2.1) ∧ RelD G ρ H p.2 v ∧ RelV v x.2.2 ∧ NRel G ρ H kvs xs r := by
  constructor
  · intro ⟨h1, h2, h3, h4⟩
    rw [List.map_cons, List.map_cons] at h1 h2
    rw [List.map_cons] at h3 h4
    obtain ⟨v, r, rfl, g1, g2⟩ := rels_cons.mp h3
    obtain ⟨u, q, e, g3, g4⟩ := rels_cons.mp h2
    injection e with e1 e2
    injection h1 with k1 k2
    cases h4 with
    | cons z1 z2 => exact ⟨v, r, rfl, k1, e1 ▸ g3, g1, z1, k2, e2 ▸ g4, g2, z2⟩
  · rintro ⟨v, r, rfl, k1, g3, g1, z1, h1, h2, h3, h4⟩
    refine ⟨?_, ?_, ?_, ?_⟩
    · rw [List.map_cons, List.map_cons, k1, h1]
    · rw [List.map_cons, List.map_cons]; exact rels_cons.mpr ⟨_, _, rfl, g3, h2⟩
    · rw [List.map_cons]; exact rels_cons.mpr ⟨_, _, rfl, g1, h3⟩
    · rw [List.map_cons]; exact .cons z1 h4
theorem nrel_len {kvs : List DP} {xs : List (NestedKey × Addr × Value)} {vs : List V} (h : NRel G ρ H kvs xs vs) : kvs.length = xs.length := by
  have := congrArg List.length h.keys
  rwa [List.length_map, List.length_map] at this
theorem nrel_keys {P : Program} {w : World} {h : Heap} (ok : HOk P w H h) : ∀ {kvs : List DP} {xs : List (NestedKey × Addr × Value)} {vs : List V}, NRel G ρ H kvs xs vs → ∀ x ∈ xs, (nestedKind P w).is h x.1 x.2.1
  | _, [], _, _, x, hx => nomatch hx
  | [], _ :: _, _, q, _, _ => by have := nrel_len q; simp at this
  | p :: kvs, y :: xs, vs, q, x, hx => by
    obtain ⟨v, r, rfl, h1, h2, h3, h4, h5⟩ := nrel_cons.mp q
    rcases List.mem_cons.mp hx with e | hx
    · subst e
      exact nested_of ok 8 h2 rfl h1
    · exact nrel_keys ok h5 x hx
theorem nrel_has {x : DV} {k : NestedKey} (e : toN 8 x = some k) : ∀ {kvs : List DP} {xs : List (NestedKey × Addr × Value)} {vs : List V}, NRel G ρ H kvs xs vs → hasN x kvs = (atKey xs k).isSome
  | [], [], _, _ => rfl
  | [], _ :: _, _, q => by have := nrel_len q; simp at this
  | _ :: _, [], _, q => by have := nrel_len q; simp at this
  | p :: kvs, y :: xs, vs, q => by
    obtain ⟨v, r, rfl, h1, h2, h3, h4, h5⟩ := nrel_cons.mp q
    have ih := nrel_has e h5
    show cnd (dvEq 30 p.1 x) true (hasN x kvs) = _
    rw [dvEq_key h1 e, ih]
    unfold atKey
    rw [List.find?_cons]
    by_cases z : y.1 = k
    · rw [decide_eq_true z]; rfl
    · rw [decide_eq_false z]; rfl
theorem nrel_repl {x d : DV} {k : NestedKey} {v : V} {u : Value} (e : toN 8 x = some k) (rd : RelD G ρ H d v) (rv : RelV v u) : ∀ {kvs : List DP} {xs : List (NestedKey × Addr × Value)} {vs : List V}, NRel G ρ H kvs xs vs →
    ∃ vs', NRel G ρ H (kvs.map fun p => cnd (dvEq 30 p.1 x) (p.1, d) p) (xs.map (putAt k u)) vs'
  | [], [], _, _ => ⟨[], nrel_nil.mpr rfl⟩
  | [], _ :: _, _, q => by have := nrel_len q; simp at this
  | _ :: _, [], _, q => by have := nrel_len q; simp at this
  | p :: kvs, y :: xs, vs, q => by
    obtain ⟨w, r, rfl, h1, h2, h3, h4, h5⟩ := nrel_cons.mp q
    obtain ⟨vs', ih⟩ := nrel_repl e rd rv h5
    rw [List.map_cons, List.map_cons, dvEq_key h1 e]
    unfold putAt
    by_cases z : y.1 = k
    · rw [decide_eq_true z, if_pos z]
      exact ⟨v :: vs', nrel_cons.mpr ⟨v, vs', rfl, h1, h2, rd, rv, ih⟩⟩
    · rw [decide_eq_false z, if_neg z]
      exact ⟨w :: vs', nrel_cons.mpr ⟨w, vs', rfl, h1, h2, h3, h4, ih⟩⟩
theorem nrel_add {x d : DV} {k : NestedKey} {b : Addr} {v : V} {u : Value} (e : toN 8 x = some k) (rx : RelD G ρ H x (.ref b)) (rd : RelD G ρ H d v) (rv : RelV v u) : ∀ {kvs : List DP} {xs : List (NestedKey × Addr × Value)} {vs : List V}, NRel G ρ H kvs xs vs →
    ∃ vs', NRel G ρ H (kvs ++ [(x, d)]) (xs ++ [(k, b, u)]) vs'
  | [], [], _, _ => ⟨[v], nrel_cons.mpr ⟨v, [], rfl, e, rx, rd, rv, nrel_nil.mpr rfl⟩⟩
  | [], _ :: _, _, q => by have := nrel_len q; simp at this
  | _ :: _, [], _, q => by have := nrel_len q; simp at this
  | p :: kvs, y :: xs, vs, q => by
    obtain ⟨w, r, rfl, h1, h2, h3, h4, h5⟩ := nrel_cons.mp q
    obtain ⟨vs', ih⟩ := nrel_add e rx rd rv h5
    exact ⟨w :: vs', nrel_cons.mpr ⟨w, vs', rfl, h1, h2, h3, h4, ih⟩⟩
theorem nrel_put {x d : DV} {k : NestedKey} {b : Addr} {v : V} {u : Value} (e : toN 8 x = some k) (rx : RelD G ρ H x (.ref b)) (rd : RelD G ρ H d v) (rv : RelV v u) {kvs : List DP} {xs : List (NestedKey × Addr × Value)} {vs : List V} (q : NRel G ρ H kvs xs vs) :
    ∃ vs', NRel G ρ H (putN x d kvs) (storedH xs k b u) vs' := by
  unfold putN storedH
  rw [nrel_has e q]
  cases z : (atKey xs k).isSome with
  | true =>
    rw [cnd_true, if_pos rfl, mapL_eq]
    exact nrel_repl e rd rv q
  | false =>
    rw [cnd_false, if_neg (by simp), app_eq]
    exact nrel_add e rx rd rv q
theorem NRel.later {ρ' : List Loc} {H' : Hp} (p : Plain H ρ) (le : Le ρ H ρ' H') {kvs : List DP} {xs : List (NestedKey × Addr × Value)} {vs : List V} (h : NRel G ρ H kvs xs vs) : NRel G ρ' H' kvs xs vs := ⟨h.keys, RelDs.later p le h.refs, RelDs.later p le h.vals, h.objs⟩
/-! ### an object written over -/
theorem le_putF {a : Addr} {u : HO} (hm : Loc.ob a ∈ ρ) (hf : Free H a) : Le ρ H ρ (L2.upd H a u) := by
  obtain ⟨f1, f2, f3⟩ := hf
  refine ⟨⟨[], by simp, fun _ z => absurd z (by simp)⟩, fun b w h n _ => ?_, fun b h => ?_, fun b w h => ?_, fun f L cl c h => ?_, fun c q h => ?_⟩
  · rw [upd_ne]
    · exact h
    · intro e; subst e; exact n hm
  · by_cases e : b = a
    · subst e; rw [upd_same] at h; cases h
    · rw [upd_ne e] at h; exact h
  · rw [upd_ne]
    · exact h
    · intro e; subst e; exact f1 _ h
  · rw [upd_ne]
    · exact h
    · intro e; subst e; exact f2 _ _ _ h
  · rw [upd_ne]
    · exact h
    · intro e; subst e; exact f3 _ h
theorem tabs_putF {T : List NdefX.NTab} {a : Addr} {o u : HO} (h : NdefX.TabsN T H) (ha : H a = some o) (ht : ∀ ps, o ≠ .tbl ps) (hf : Free H a) : NdefX.TabsN T (L2.upd H a u) := by
  refine fun t ht' => ?_
  obtain ⟨m, e, e2, e3⟩ := h t ht'
  refine ⟨m, ?_, e2, fun pos cv z => ?_⟩
  · rw [upd_ne]
    · exact e
    · intro z
      rw [z, ha] at e
      exact ht _ (Option.some.inj e)
  · obtain ⟨c, h1, h2⟩ := e3 pos cv z
    refine ⟨c, h1, ?_⟩
    rw [upd_ne]
    · exact h2
    · intro z
      subst z
      exact hf.2.2 _ h2
end
section
variable {G : Gv} {X : Cx} {n0 : Ent} {cs : List Nat} {ρ : List Loc} {dh : DH} {fr : Fr} {σ : L2.St} {H : Hp}
theorem st_putF {i : Nat} {a : Addr} {o u : HO} {ob ob' : DObj} (st : StRel G X n0 cs ρ dh fr σ H) (e : ρ[i]? = some (.ob a)) (ha : H a = some o) (ht : ∀ ps, o ≠ .tbl ps) (hf : Free H a) (hd : dh.get i = some ob) (hnc : ∀ d, ob ≠ .cell d) (hn : ∀ d, ob' ≠ .cell d)
    (ho : ObjRel G X n0 cs σ ρ (L2.upd H a u) i (.ob a) ob') : StRel G X n0 cs ρ (dh.put i ob') fr σ (L2.upd H a u) := by
  have le : Le ρ H ρ (L2.upd H a u) := le_putF (List.mem_of_getElem? e) hf
  refine ⟨⟨?_, st.hr.nd, st.hr.low, fun j l ej => ?_, tabs_putF st.hr.tabs ha ht hf⟩, st.sl.later st.hr.plain le (fun c d _ q => ?_), st.fl, st.wl, fun j hj o q => ?_⟩
  · rw [put_n]; exact st.hr.len
  · by_cases hj : j = i
    · subst hj
      rw [e] at ej; cases ej
      exact ⟨ob', get_put_same _ _ _, ho⟩
    · obtain ⟨w, h1, h2⟩ := st.hr.obj j l ej
      refine ⟨w, by rw [get_put_ne _ _ hj]; exact h1, h2.later st.hr.plain le fun b v hl hb => ?_⟩
      rw [upd_ne]
      · exact hb
      · intro z
        subst z; subst hl
        exact hj (st.hr.nd j i _ ej e)
  · by_cases hj : c = i
    · subst hj
      rw [get_put_same] at q
      exact absurd (Option.some.inj q) (hn d)
    · rw [get_put_ne _ _ hj] at q; exact q
  · have z := st.old j hj o q
    rw [get_put_ne]
    · exact z
    · intro w
      subst w
      rw [hd] at z
      exact hnc o (Option.some.inj z)
theorem st_busy (h : StRel G X n0 cs ρ dh fr σ H) {i : Nat} {v : V} {kvs : List DP} (r : RelD G ρ H (.ref i) v) (e : dh.get i = some (.busy kvs)) : ∃ a, v = .ref a ∧ ρ[i]? = some (.ob a) ∧ DicN G ρ H a kvs := by
  obtain ⟨a, rfl, ea⟩ := rel_ref.mp r
  obtain ⟨o, h1, h2⟩ := h.hr.obj i _ ea
  rw [e] at h1; cases h1
  obtain ⟨b, z, q⟩ := h2
  cases z
  exact ⟨a, rfl, ea, q⟩
end
theorem obN_of {o : Option DObj} {k : List DP → Bool} (h : obN false o k = true) : ∃ kvs, o = some (.busy kvs) ∧ k kvs = true := by
  cases o with
  | none => cases h
  | some o => cases o <;> first | exact ⟨_, rfl, h⟩ | cases h
/-! ### d[k] = v -/
section
variable {C : Sc} {e e2 : Expr} {a b : Ex} {ss : List Nat} {pos : Pos}
theorem sg_ixN (ha : PE C.X e (C.E a)) (hb : PE C.X e2 (C.E b)) (hs : ∀ v, assign (.Subscript e e2 pos) C.X.env v = (do
      let ov ← holding [v] (eval e C.X.env)
      let iv ← holding [v, ov] (eval e2 C.X.env)
      standAt pos
      holding [v, ov, iv] (setItem ov iv v)
      release [v, ov, iv] [])) : PG C.X (.Subscript e e2 pos) (C.Tg ss (gIxN a b)) := by
  refine pg_imp (pg_sub ha hb (set_N (by have := C.hu; omega)) hs) fun v σ H P ⟨ρ, dh, fr, d, k, st, r, ko, h⟩ => ?_
  have noX : ∀ {ρ : List Loc} {H : Hp}, C.XO ρ H fr σ noK := fun _ _ _ _ _ _ _ _ _ _ z => by cases z
  refine E_then st noX h fun ρ1 dh1 H1 d1 v1 st1 le1 r1 h1 => ?_
  refine E_then st1 noX h1 fun ρ2 dh2 H2 d2 v2 st2 le2 r2 h2 => ?_
  obtain ⟨dh3, e3, h3⟩ := onO_some h2
  have r1 := RelD.later st1.hr.plain le2 r1
  have r := RelD.later st.hr.plain (le1.trans le2) r
  cases d1 with
  | ref i =>
    have e3 : obN none (dh2.get i) (fun kvs => onO none (storeN d2 d kvs) fun q => some (dh2.put i (.busy q))) = some dh3 := e3
    cases q : dh2.get i with
    | none => rw [q] at e3; cases e3
    | some o =>
      rw [q] at e3
      cases o with
      | busy kvs =>
        have e3 : onO none (cnd (isTup d2) (cnd (isN 8 d2) (cnd (fits (Nat.succ (lenN kvs))) (some (putN d2 d kvs)) none) none) none) (fun q => some (dh2.put i (.busy q))) = some dh3 := e3
        cases t1 : isTup d2 with
        | false => rw [t1] at e3; cases e3
        | true =>
          cases t2 : isN 8 d2 with
          | false => rw [t1, t2] at e3; cases e3
          | true =>
            cases t3 : fits (Nat.succ (lenN kvs)) with
            | false => rw [t1, t2, t3] at e3; cases e3
            | true =>
              rw [t1, t2, t3] at e3
              have e3 : some (dh2.put i (.busy (putN d2 d kvs))) = some dh3 := e3
              cases e3
              have t3 := fits_le t3
              rw [lenN_eq] at t3
              obtain ⟨kk, ek⟩ := isN_some 8 t2
              obtain ⟨p, rfl, ea, xs, vs, hp, nr⟩ := st_busy st2 r1 q
              have hw : C.G.w = C.X.w := C.hw
              have hx : ∃ c, v2 = .ref c := by
                cases d2 with
                | tup ys => obtain ⟨c, _, z, _⟩ := rel_tup.mp r2; exact ⟨c, z⟩
                | _ => cases t1
              obtain ⟨c, rfl⟩ := hx
              refine ⟨p, c, kk, xs, rfl, rfl, by rw [← hw]; exact hp, by have := nrel_len nr; omega, fun hh ok => ⟨nested_of ok 8 r2 rfl ek, nrel_keys ok nr⟩, fun hf u ru => ?_⟩
              obtain ⟨vs', nr'⟩ := nrel_put ek r2 r ru nr
              have le3 : Le ρ2 H2 ρ2 (L2.upd H2 p (DicNO C.X.w p (storedH xs kk c u))) := le_putF (List.mem_of_getElem? ea) hf
              refine ko ρ2 _ fr σ _ (st_putF (ob' := .busy (putN d2 d kvs)) st2 ea hp (fun _ z => nomatch z) hf q (fun _ z => nomatch z) (fun _ z => nomatch z) ?_) ((le1.trans le2).trans le3) (fun _ _ => rfl) h3
              show ∃ b, Loc.ob p = .ob b ∧ DicN C.G ρ2 (L2.upd H2 p (DicNO C.X.w p (storedH xs kk c u))) b _
              exact ⟨p, rfl, storedH xs kk c u, vs', by rw [upd_same, hw], nr'.later st2.hr.plain le3⟩
      | _ => cases e3
  | _ => cases e3
end
end Dz

set_option Elab.async false
set_option linter.all false
set_option maxRecDepth 100000
set_option maxHeartbeats 2000000
/-! Dz: dicts with keys of any depth: {}, {k: v}, walks. -/
namespace Dz
open PySem L2 PyProof.Rows
theorem dn_empty {P : Program} {w : World} {H : Hp} (h : Heap) (hb : sysModules < h.objs.size) : ObjOk P w H (h.push { cls := .type "dict", data := .dict #[] }) h.objs.size (DicNO w h.objs.size []) :=
  dn_ok ⟨_, #[], 0, Heap.get?_push_size _ rfl, ⟨rfl, rfl, rfl⟩, rfl, rfl, rfl, (fun x hx => nomatch hx), List.nodup_nil⟩ (beq_eq_false_iff_ne.mpr (Ne.symm (Nat.ne_of_lt hb))) (Nat.zero_le _)
section
variable {X : Cx} {pos : Pos} {tg e : Expr} {td : TE}
theorem pe_dnewN : PE X (.Dict [] [] pos) (fun _ H Q => ∀ p, H p = none → Q (.ref p) (L2.upd H p (DicNO X.w p []))) := ⟨fun pins s σ H Q I h =>
  wpAny_Dict_empty ⟨.ref s.heap.objs.size, _, I.laid (a := s.heap.objs.size) (o := DicNO X.w s.heap.objs.size []) (t' := s.toks) (fun _ _ q => Heap.get?_push_of_some _ q) (Nat.le_refl _) (dn_empty s.heap I.big), rfl, h _ (I.hok.fresh (Nat.le_refl _))⟩⟩
theorem for_nil {prog : Program} {w : World} {A : Around} {E : Value → Shared → Prop} {s : Shared} {Q : PUnit → Shared → Prop} {f : Value × Value → PUnit → Sem (ForInStep PUnit)} (h : Q PUnit.unit s) : wpAny (model prog w) A (forIn ([] : List (Value × Value)) PUnit.unit f) Q E s := by
  rw [List.forIn_nil]
  exact wpAny_pure h
def tDisp1N (X : Cx) (tk tv : TE) : TE := fun σ H Q => ∀ p, H p = none → tPairs [(tk, tv)] σ (L2.upd H p (DicNO X.w p [])) fun ps H2 => ∃ y v, ps = [(y, v)] ∧ H2 p = some (DicNO X.w p []) ∧
  ∃ b k, y = V.ref b ∧ (∀ h, HOk X.prog X.w H2 h → (nestedKind X.prog X.w).is h k b) ∧ (Free H2 p → ∀ u, RelV v u → Q (.ref p) (L2.upd H2 p (DicNO X.w p (storedH [] k b u))))
theorem pe_disp1N {ke ve : Expr} {tk tv : TE} (hu : X.A.units + 9 < cLine) (hk : PE X ke tk) (hv : PE X ve tv) : PE X (.Dict [some ke] [ve] pos) (tDisp1N X tk tv) := by
  refine ⟨fun pins s σ H Q I q => ?_⟩
  have hn := I.hok.fresh (Nat.le_refl s.heap.objs.size)
  have I1 := I.laid (a := s.heap.objs.size) (o := DicNO X.w s.heap.objs.size []) (h' := s.heap.push { cls := .type "dict", data := .dict #[] }) (t' := s.toks) (fun _ _ q => Heap.get?_push_of_some _ q) (Nat.le_refl _) (dn_empty s.heap I.big)
  have pp : PPs X pos [some ke] [ve] [(tk, tv)] := pps_cons hk hv pps_nil
  have hlen : (pairTrees [some ke] [ve] X.env pos).length = 1 := rfl
  rw [arm_eval_Dict, zip_pairTrees [some ke] [ve] X.env pos rfl rfl, dictDisplay_pairs (pairTrees [some ke] [ve] X.env pos) (fun z => nomatch z) (by rw [hlen]; decide)]
  refine wpAny_bind (wpAny_standAt (wpAny_bind ?_))
  unfold subDict
  refine wpAny_bind (wpAny_alloc ?_)
  refine wpAny_bind (wpAny_holding ?_)
  rw [if_pos (by rw [hlen]; decide)]
  refine wpAny_bind (thn (pp.run pins _ σ _ _ I1 (q _ hn)) fun ws s2 ⟨ps, H2, I2, rel, y, v, e, hd, b, k, ey, hk, q2⟩ => ?_)
  subst e; subst ey
  have hws : ∃ kv vv, ws = [(kv, vv)] ∧ RelV (.ref b) kv ∧ RelV v vv := by
    cases rel with
    | cons r1 r2 => cases r2; exact ⟨_, _, rfl, r1.1, r1.2⟩
  clear rel
  obtain ⟨kv, vv, ews, r1, rv⟩ := hws
  subst ews
  · show wpAny _ _ _ _ _ _
    have r1 : kv = Value.ref b := r1
    subst r1
    refine wpAny_holding ?_
    refine wpAny_bind ?_
    rw [List.forIn_cons]
    refine wpAny_bind (wpAny_bind (dictSet_E (by omega) (hk s2.heap I2.hok) (de_of I2.hok hd (fun x hx => nomatch hx)) (fun h' tk d' hs' => wpAny_pure ?_) (Nat.zero_le _)))
    refine for_nil (wpAny_pure (wpAny_pure (wpAny_pure ⟨.ref s.heap.objs.size, _, ?_, rfl, q2 (free_dic I2 hd) vv rv⟩)))
    have he : ∃ q, h'.get? s.heap.objs.size = some q := let ⟨q, _, _, hq, _⟩ := d'; ⟨q, hq⟩
    exact d_write I2 (by rw [hd]; exact True.intro) hs' he (dn_ok d' (dn_of I2.hok hd).1.1 (Nat.le_trans (storedH_len [] k b vv) (by decide)))
end
/-! ### walks -/
/-- the keys of the dict at d, as long as it is as large as at first -/
def Itkn (w : World) (d : Addr) (n : Nat) : L2.It :=
  ⟨fun i H => (∃ xs, H d = some (DicNO w d xs) ∧ xs.length = n) ∧ i < n, fun i H x H' => H' = H ∧ ∀ xs, H d = some (DicNO w d xs) → ∃ y, xs[i]? = some y ∧ x = V.ref y.2.1, fun i H => (∃ xs, H d = some (DicNO w d xs) ∧ xs.length = n) ∧ n ≤ i⟩
theorem turn_kn {P : Program} {w : World} {K : PySem.W.Frag} {tg : Expr} {d : Addr} {n : Nat} (it : Addr) : Turn P w K tg (Itkn w d n) [it] it (fun i h => h.IsKeyIter it d i n n) where
  mem := by simp
  obj := fun i h st b hb => by
    have e : b = it := by simpa using hb
    subst e
    obtain ⟨oi, e, c, dd⟩ := st
    exact ⟨oi, e, fun v z => by rw [dd] at z; cases z⟩
  keep := fun i h h' st k => st.at fun oi e => k it (by simp) oi e
  item := by
    intro X hP hw hK hc i pins s σ H E I hf st hg
    subst hP hw hK
    obtain ⟨⟨xs, hd, hl⟩, hi⟩ := hg
    subst hl
    obtain ⟨f0, f1, f2, f3, f4, f5⟩ := hf it (by simp)
    obtain ⟨_, o, es, ho, hx, hdt, he⟩ := dn_of I.hok hd
    have hsz : es.size = xs.length := by rw [← Array.length_toList, he, List.length_map]
    have hen : es[i]? = some ⟨(xs[i]).1.hash X.w, .ref (xs[i]).2.1, (xs[i]).2.2⟩ := by
      rw [← Array.getElem?_toList, he, List.getElem?_map, List.getElem?_eq_getElem hi]; rfl
    refine next_key_item st ho hdt hsz hen fun h' st' sb => ?_
    have I1 : Inv X pins σ H { s with heap := h' } := I.turned (t' := s.toks) (fun b ob hb e => (sb.2 b hb).trans e) f0 f1 f3 f4 f5
    obtain ⟨oi, e, c, dd⟩ := id st'
    refine ⟨_, rfl, go_of (s := { s with heap := h' }) e c dd (by decide) ⟨.ref (xs[i]).2.1, H, I1, rfl, ⟨rfl, fun xs' hd' => ?_⟩, st', fun b hb => (hf b hb).1⟩⟩
    obtain ⟨_, o', es', ho', _, hdt', he'⟩ := dn_of I.hok hd'
    rw [ho] at ho'; cases ho'
    obtain ⟨z1, z2⟩ := dict_ep hdt hdt'
    subst z1
    have h1 : (xs'.map fun x => (⟨x.1.hash X.w, .ref x.2.1, x.2.2⟩ : DictEntry))[i]? = some ⟨(xs[i]).1.hash X.w, .ref (xs[i]).2.1, (xs[i]).2.2⟩ := by rw [← he', Array.getElem?_toList]; exact hen
    rw [List.getElem?_map] at h1
    cases q : xs'[i]? with
    | none => rw [q] at h1; cases h1
    | some y =>
      rw [q] at h1
      have h1 := Option.some.inj h1
      injection h1 with _ z _
      injection z with z
      exact ⟨y, rfl, by rw [z]⟩
  done := by
    intro X hP hw hK hc i pins s σ H E I hf st hg
    subst hP hw hK
    obtain ⟨⟨xs, hd, hl⟩, hi⟩ := hg
    subst hl
    obtain ⟨f0, f1, f2, f3, f4, f5⟩ := hf it (by simp)
    obtain ⟨_, o, es, ho, hx, hdt, he⟩ := dn_of I.hok hd
    have hsz : es.size = xs.length := by rw [← Array.length_toList, he, List.length_map]
    exact next_key_end (I.ok.hd hc) st ho hdt hsz hi fun h' eb => ⟨rfl, I.turned (t' := s.toks) (fun b ob hb e => eb b ob hb e) f0 f1 f3 f4 f5⟩
  self := fun A i s Q E st h => by
    refine wpAny_pyIter_slot st.typeIs PySem.F.slot_dict_keyiterator_iter (wpAny_call_entry PySem.F.slot_dict_keyiterator_iter st.typeIs PySem.F.entry_dict_keyiterator_iter ?_ (PySem.F.args_dict_keyiterator_iter_1 _))
    show wpAny _ _ (ret (.ref it)) _ _ s
    exact wpAny_pure ⟨_, rfl, "dict_keyiterator", _, st.typeIs, PySem.F.slot_dict_keyiterator_next.lookup, h⟩
def iKn (w : World) (td : TE) : TI := fun σ H R => td σ H fun x H1 => ∃ d xs, x = V.ref d ∧ H1 d = some (DicNO w d xs) ∧ R (Itkn w d xs.length) H1
theorem pi_kn {X : Cx} {tg e : Expr} {td : TE} (he : PE X e td) : PI X tg e (iKn X.w td) := by
  refine ⟨fun pins s σ H R I h => ?_⟩
  refine thn (he.run pins s σ H _ I h) fun u s1 ⟨x, H1, I1, rx, d, xs, ex, hd, q⟩ => ?_
  subst ex
  obtain rfl : u = Value.ref d := rx
  obtain ⟨⟨hs, _⟩, o, es, ho, hx, hdt, he⟩ := dn_of I1.hok hd
  have hsz : es.size = xs.length := by rw [← Array.length_toList, he, List.length_map]
  refine iter_keys hs ho hx hdt (pi_one (tk := s1.toks) I1 _ (turn_kn _) ⟨_, Heap.get?_push_size _ rfl, rfl, ?_⟩ q)
  rw [hsz] <;> rfl
end Dz

set_option Elab.async false
set_option linter.all false
set_option maxRecDepth 100000
set_option maxHeartbeats 2000000
/-! Dz: dicts with keys of any depth, by data. -/
namespace Dz
open PySem L2 PyProof.Rows
section
variable {G : Gv} {X : Cx} {n0 : Ent} {cs : List Nat} {ρ ρ' : List Loc} {dh : DH} {fr : Fr} {σ : L2.St} {H H' : Hp}
theorem updF {D : Addr} {o' u : HO} {φ : Heap → Prop} {a : Addr} (hD : H D = some (.ext φ)) (h : H a = some u) (n : ∀ φ, u ≠ .ext φ) : L2.upd H D o' a = some u := by
  rw [upd_ne]
  · exact h
  · intro e; subst e; rw [hD] at h; cases h; exact n _ rfl
theorem lw_free {D : Addr} {o' : HO} {φ : Heap → Prop} (hD : H D = some (.ext φ)) (hF : Free H D) : Lw ρ H ρ (L2.upd H D o') := by
  obtain ⟨f1, f2, f3⟩ := hF
  refine ⟨fun a zs h => updF hD h (fun _ z => nomatch z), fun f L cl c h => ?_, fun c q h => ?_, fun _ _ h => h, fun a o u h => updF hD h (fun _ z => nomatch z)⟩
  · rw [upd_ne]
    · exact h
    · intro e; subst e; exact f2 _ _ _ h
  · rw [upd_ne]
    · exact h
    · intro e; subst e; exact f3 _ h
theorem st_free {D : Addr} {o' : HO} {φ : Heap → Prop} (st : StRel G X n0 cs ρ dh fr σ H) (hD : H D = some (.ext φ)) (hF : Free H D) (hn : Loc.ob D ∉ ρ) : StRel G X n0 cs ρ dh fr σ (L2.upd H D o') := by
  have w : Lw ρ H ρ (L2.upd H D o') := lw_free hD hF
  refine ⟨⟨st.hr.len, st.hr.nd, st.hr.low, fun i l e => ?_, tabs_putF st.hr.tabs hD (fun _ z => nomatch z) hF⟩, st.sl.lw w, st.fl, st.wl, st.old⟩
  obtain ⟨ob, h1, h2⟩ := st.hr.obj i l e
  refine ⟨ob, h1, h2.lw w (fun a u ha hu => ?_) fun a u hu => ?_⟩
  · rw [upd_ne]
    · exact hu
    · intro z; subst z; subst ha; exact hn (List.mem_of_getElem? e)
  · rw [upd_ne]
    · exact hu
    · intro z; subst z; exact hF.1 _ hu
end
section
variable {C : Sc} {ke ve e tg : Expr} {a b : Ex} {pos : Pos}
theorem se_dicN0 : PE C.X (.Dict [] [] pos) (C.E cDicN0) := pe_imp pe_dnewN fun σ H Q ⟨ρ, dh, fr, kx, k, st, xo, ko, h⟩ p hp =>
  ko (ρ ++ [.ob p]) _ _ _ _ (st_new (ob := .busy []) st hp ⟨p, rfl, [], [], by rw [upd_same, show C.G.w = C.X.w from C.hw], nrel_nil.mpr rfl⟩) (le_new hp) (new_at st p) h
theorem se_dicN1 (hk : PE C.X ke (C.E a)) (hv : PE C.X ve (C.E b)) : PE C.X (.Dict [some ke] [ve] pos) (C.E (cDicN1 a b)) := by
  refine pe_imp (pe_disp1N (by have := C.hu; omega) hk hv) fun σ H Q ⟨ρ, dh, fr, kx, k, st, xo, ko, h⟩ p hp => ?_
  have np : Loc.ob p ∉ ρ := fun z => (st.hr.plain p z).1.2 hp
  show C.E a σ _ fun y H1 => C.E b σ H1 fun v H2 => _
  refine E_then (st_upd (o := DicNO C.X.w p []) st hp) (xo.later (le_upd hp)) h fun ρ1 dh1 H1 d1 v1 st1 le1 r1 h1 => ?_
  refine E_then st1 (xo.later ((le_upd hp).trans le1)) h1 fun ρ2 dh2 H2 d2 v2 st2 le2 r2 h2 => ?_
  have le12 := le1.trans le2
  have hH2 : H2 p = some (DicNO C.X.w p []) := le12.keep p _ upd_same np (fun _ z => nomatch z)
  have np2 : Loc.ob p ∉ ρ2 := le_notin le12 (by rw [upd_same]; simp) np
  obtain ⟨t1, h2⟩ := cnd_and h2
  obtain ⟨t2, h2⟩ := cnd_and h2
  have r1 := RelD.later st1.hr.plain le2 r1
  obtain ⟨kk, ek⟩ := isN_some 8 t2
  have hx : ∃ c, v1 = .ref c := by
    cases d1 with
    | tup ys => obtain ⟨c, _, z, _⟩ := rel_tup.mp r1; exact ⟨c, z⟩
    | _ => cases t1
  obtain ⟨c, rfl⟩ := hx
  refine ⟨_, _, rfl, hH2, c, kk, rfl, fun hh ok => nested_of ok 8 r1 rfl ek, fun hf u ru => ?_⟩
  have st3 := st_free (o' := DicNO C.X.w p (storedH [] kk c u)) st2 hH2 hf np2
  have w1 : Lw ρ2 H2 ρ2 (L2.upd H2 p (DicNO C.X.w p (storedH [] kk c u))) := lw_free hH2 hf
  have w2 : Lw ρ2 H2 (ρ2 ++ [.ob p]) (L2.upd H2 p (DicNO C.X.w p (storedH [] kk c u))) := ⟨w1.tups, w1.lams, w1.codes, fun i a h => by rw [List.getElem?_append_left (List.getElem?_eq_some_iff.mp h).1]; exact h, w1.frzs⟩
  refine ko (ρ2 ++ [.ob p]) _ _ _ _ (st_adoptG (ob := .busy [(d1, d2)]) st3 np2 ⟨p, rfl, storedH [] kk c u, [v2], by rw [upd_same, show C.G.w = C.X.w from C.hw], nrel_cons.mpr ⟨v2, [], rfl, ek, RelD.lw w2 r1, RelD.lw w2 r2, ru, nrel_nil.mpr rfl⟩⟩) (le_adopt (le_lone ((le_upd hp).trans le12) hp hH2) hp) ?_ h2
  exact rel_ref.mpr ⟨p, rfl, by rw [st2.hr.len]; simp⟩
theorem nxKeyN_of {c n i : Nat} {dh : DH} {o : Option DV} (e : nxKeyN c n i dh = some o) : ∃ kvs, dh.get c = some (.busy kvs) ∧ kvs.length = n ∧ o = (kvs[i]?).map (·.1) := by
  unfold nxKeyN at e
  cases q : dh.get c with
  | none => rw [q] at e; cases e
  | some ob =>
    rw [q] at e
    cases ob with
    | busy kvs =>
      have e : cnd (Nat.beq (lenN kvs) n) (some (onO none (nth kvs i) fun p => some p.1)) none = some o := e
      cases z : Nat.beq (lenN kvs) n with
      | false => rw [z] at e; cases e
      | true =>
        rw [z] at e
        refine ⟨kvs, rfl, by rw [← lenN_eq]; exact Nat.eq_of_beq_eq_true z, ?_⟩
        rw [nth_eq] at e
        have e := Option.some.inj (show some (onO none (kvs[i]?) fun p => some p.1) = some o from e)
        rw [← e]
        cases kvs[i]? <;> rfl
    | _ => cases e
theorem rel_keysN {ρ : List Loc} {dh : DH} {fr : Fr} {σ : L2.St} {H : Hp} {i n : Nat} {d : Addr} (st : C.St ρ dh fr σ H) (r : RelD C.G ρ H (.ref i) (.ref d)) : RelIt C.G C.X.K ρ H (.keys i n) (Itkn C.X.w d n) := fun C2 hG hK ρ' dh' fr' σ' H' m st' le => by
  have r' := RelD.later st.hr.plain le r
  have hw : C2.G.w = C.X.w := by rw [hG]; exact C.hw
  rw [← hG] at r'
  refine ⟨fun e => ?_, fun x e => ?_⟩
  · obtain ⟨kvs, e1, e2, e3⟩ := nxKeyN_of e
    obtain ⟨b, h0, ea, xs, vs, hp, nr⟩ := st_busy st' r' e1
    cases h0
    rw [hw] at hp
    have hl := nrel_len nr
    refine ⟨⟨xs, hp, by omega⟩, ?_⟩
    cases q : kvs[m]? with
    | none => rw [List.getElem?_eq_none_iff] at q; omega
    | some z => rw [q] at e3; cases e3
  · obtain ⟨kvs, e1, e2, e3⟩ := nxKeyN_of e
    obtain ⟨b, h0, ea, xs, vs, hp, nr⟩ := st_busy st' r' e1
    cases h0
    rw [hw] at hp
    have hl := nrel_len nr
    cases q : kvs[m]? with
    | none => rw [q] at e3; cases e3
    | some z =>
      rw [q] at e3; cases e3
      have hm : m < kvs.length := (List.getElem?_eq_some_iff.mp q).1
      refine ⟨⟨⟨xs, hp, by omega⟩, by omega⟩, fun v H2 ⟨q1, q2⟩ => ?_⟩
      subst q1
      obtain ⟨y, g1, g2⟩ := q2 xs hp
      subst g2
      refine ⟨st', Le.refl _ _, ?_⟩
      obtain ⟨w, z1, z2⟩ := rels_get (i := m) (d := z.1) nr.refs (by rw [List.getElem?_map, q]; rfl)
      rw [List.getElem?_map, g1] at z1
      cases z1
      exact z2
theorem si_keysN (he : PE C.X e (C.E a)) : PI C.X tg e (C.I (iKeysN a)) := pi_imp (pi_kn he) fun σ H R ⟨ρ, dh, fr, kx, k, st, xo, ki, h⟩ => by
  refine E_then st xo h fun ρ1 dh1 H1 d v st1 le1 r1 h1 => ?_
  obtain ⟨i, rfl, h1⟩ := onR_of h1
  obtain ⟨kvs, e1, h1⟩ := obN_of h1
  obtain ⟨p, rfl, ea, xs, vs, hp, nr⟩ := st_busy st1 r1 e1
  rw [show C.G.w = C.X.w from C.hw] at hp
  have hl := nrel_len nr
  rw [lenN_eq, hl] at h1
  exact ⟨p, xs, rfl, hp, ki ρ1 dh1 H1 _ _ st1 le1 (rel_keysN st1 r1) h1⟩
end
end Dz

set_option Elab.async false
set_option linter.all false
set_option maxRecDepth 100000
set_option maxHeartbeats 2000000
/-! Dz: sorted(d) of a dict with keys of any depth, in the model (the walk follows the library's call_sortedD). -/
namespace Dz
open PySem L2 PyProof.Rows
open PySem.W (EachIs AllAlike Sortable dataLe list_sort_data)
theorem reads_of {P : Program} {w : World} {G : Gv} {ρ : List Loc} {H : Hp} {h : Heap} (ok : HOk P w H h) : ∀ (n : Nat) {d : DV} {v : V} {u : Value} {k : NestedKey}, RelD G ρ H d v → RelV v u → toN n d = some k → Reads h u k.data []
  | 0, d, v, u, k, r, rv, e => by cases e
  | n + 1, d, v, u, k, r, rv, e => by
    have all : ∀ (xs : List DV) (vs : List V) (us : List Value) (ks : List NestedKey), RelDs G ρ H xs vs → Vals vs us → xs.mapM (toN n) = some ks → ReadsAll h us (NestedKey.datas ks) [] := by
      intro xs
      induction xs with
      | nil =>
        intro vs us ks r rv e
        rw [rels_nil] at r; subst r
        cases rv
        cases e
        exact .nil
      | cons x xs ih =>
        intro vs us ks r rv e
        obtain ⟨v, r', rfl, r1, r2⟩ := rels_cons.mp r
        obtain ⟨k, ks', e1, e2, rfl⟩ := mapM_cons e
        cases rv with
        | cons q1 q2 =>
          rw [NestedKey.datas]
          exact .cons (as := []) (bs := []) (reads_of ok n r1 q1 e1) (ih _ _ _ r2 q2 e2)
    cases d with
    | non =>
      cases e
      rw [rel_non] at r; subst r
      have rv : u = Value.none := rv
      subst rv
      rw [NestedKey.data]; exact .none
    | int i =>
      cases e
      rw [rel_int] at r; subst r
      obtain ⟨t, rfl⟩ := (show ∃ t, u = Value.int i t from rv)
      rw [NestedKey.data]; exact .int i t
    | str x =>
      cases e
      rw [rel_str] at r; subst r
      obtain ⟨t, rfl⟩ := (show ∃ t, u = Value.str _ t from rv)
      rw [NestedKey.data]; exact .str _ t
    | tup xs =>
      obtain ⟨ks, e1, rfl⟩ := toN_tup e
      obtain ⟨a, vs, rfl, ha, rr⟩ := rel_tup.mp r
      have rv : u = Value.ref a := rv
      subst rv
      obtain ⟨its, o, m, g1, g2, g3, g4⟩ := nested_tup ok ha
      rw [NestedKey.data]
      exact .tuple g2 g3 g4 (by simpa using all xs vs its ks rr g1 e1)
    | bl b => cases e
    | ref i => cases e
    | fn k c => cases e
    | exn k c => cases e
    | cl t => cases e
theorem nrel_reads {P : Program} {w : World} {G : Gv} {ρ : List Loc} {H : Hp} {h : Heap} (ok : HOk P w H h) : ∀ {kvs : List DP} {xs : List (NestedKey × Addr × Value)} {vs : List V}, NRel G ρ H kvs xs vs → ∀ x ∈ xs, Reads h (.ref x.2.1) x.1.data []
  | _, [], _, _, x, hx => nomatch hx
  | [], _ :: _, _, q, _, _ => by have := nrel_len q; simp at this
  | p :: kvs, y :: xs, vs, q, x, hx => by
    obtain ⟨v, r, rfl, h1, h2, h3, h4, h5⟩ := nrel_cons.mp q
    rcases List.mem_cons.mp hx with e | hx
    · subst e
      exact reads_of ok 8 h2 rfl h1
    · exact nrel_reads ok h5 x hx
abbrev NE := NestedKey × Addr × Value
def encN (x : NE) : PyData := x.1.data
theorem each_refs {Q : Value → NE → Prop} : ∀ {xs : List NE}, (∀ x ∈ xs, Q (.ref x.2.1) x) → EachIs Q (xs.map fun x => Value.ref x.2.1) xs
  | [], _ => .nil
  | x :: xs, h => .cons (h x (List.mem_cons_self ..)) (each_refs fun y hy => h y (List.mem_cons_of_mem _ hy))
theorem each_refs' {Q : Value → NE → Prop} {vs : List Value} {xs : List NE} (e : vs = xs.map fun x => Value.ref x.2.1) (h : ∀ x ∈ xs, Q (.ref x.2.1) x) : EachIs Q vs xs := by
  subst e
  exact each_refs h
theorem each_vals : ∀ {out : List Value} {xs : List NE}, EachIs (fun v x => v = Value.ref x.2.1) out xs → Vals (xs.map fun x => V.ref x.2.1) out
  | _, _, .nil => .nil
  | _, _, .cons e t => .cons e (each_vals t)
theorem call_sortedN {X : Cx} (hcalm : X.calm = true) : CallR X (.builtin "sorted") (fun xs H Q => ∃ (a : Addr) (es : List NE), xs = [.ref a] ∧ X.A.units + 20 < cLine ∧ H a = some (DicNO X.w a es) ∧ AllAlike (es.map encN) ∧ Sortable (es.map encN) ∧ (∀ x ∈ es, (encN x).depth ≤ 8) ∧
    (∀ h, HOk X.prog X.w H h → ∀ x ∈ es, Reads h (.ref x.2.1) (encN x) []) ∧ ∀ p, H p = none → Q (.ref p) (L2.upd H p (.lst ((es.mergeSort (dataLe false encN)).map fun x => V.ref x.2.1)))) := by
  intro pins s σ H xs us Q I r q
  obtain ⟨a, es, ex, hu, hd, hal, hso, hdp, hrd, q⟩ := q
  subst ex
  obtain ⟨u, eu, rx⟩ := vals1 r
  subst eu
  cases rx
  obtain ⟨⟨hs, hz, hn⟩, o, des, ho, hx, hdt, he⟩ := dn_of I.hok hd
  have hsz : des.size = es.length := by rw [← Array.length_toList, he, List.length_map]
  refine Calls.call_function_entry PyProof.Rows.kind_sorted PyProof.Rows.plain_sorted PyProof.Rows.entry_sorted (PyProof.Rows.args_sorted1 _) ?_
  unfold Builtin.«sorted»
  refine wpAny_bind (m := checkCount "sorted" 1 1 _) (wpAny_pure ?_)
  refine wpAny_bind (PySem.W.kdu_collect (A := X.A.in1) (kdl_raw hs hx hdt) (I.ok.hd hcalm) ho (by rw [hsz]; exact hz) fun h' tk acc hk hacc => ?_)
  have hal2 : acc.toList.length = es.length := by rw [Array.length_toList, hacc.1, hsz]
  have ea : acc.toList = es.map fun x => Value.ref x.2.1 := by
    apply List.ext_getElem?
    intro j
    rw [List.getElem?_map]
    cases hj : acc.toList[j]? with
    | none =>
      have h1 := List.getElem?_eq_none_iff.mp hj
      rw [List.getElem?_eq_none (by omega)]
      all_goals rfl
    | some v =>
      obtain ⟨en, hen, hv⟩ := hacc.2 j v (by rw [← Array.getElem?_toList]; exact hj)
      have qe : (es.map fun x => (⟨x.1.hash X.w, .ref x.2.1, x.2.2⟩ : DictEntry))[j]? = some en := by rw [← he, Array.getElem?_toList]; exact hen
      rw [List.getElem?_map] at qe
      cases hb : es[j]? with
      | none => rw [hb] at qe; cases qe
      | some b =>
        rw [hb] at qe
        have e2 := Option.some.inj qe
        rw [hv, ← e2]
        all_goals rfl
  have I1 : Inv X pins σ H { s with heap := h', toks := tk } := I.kept hk
  refine wpAny_bind (wpAny_newList ?_ (by rw [hal2]; exact hz))
  have hoL : (h'.push (seqObj "list" acc.toList.toArray 0)).get? h'.objs.size = some (seqObj "list" acc.toList.toArray 0) := Heap.get?_push_size _ rfl
  have I2 : Inv X pins σ H { s with heap := h'.push (seqObj "list" acc.toList.toArray 0), toks := tk } := I1.kept fun _ _ z => Heap.get?_push_of_some _ z
  have rd := hrd _ I2.hok
  show wpAny _ _ _ _ _ { s with heap := h'.push (seqObj "list" acc.toList.toArray 0), toks := tk }
  refine wpAny_bind (wpAny_holding (list_sort_data (s := { s with heap := h'.push (seqObj "list" acc.toList.toArray 0), toks := tk }) (R := fun v x => v = Value.ref x.2.1) (enc := encN) (bs := es) hoL (each_refs' ea fun x _ => rfl)
    (each_refs' ea fun x hx => ⟨[], rd x hx, by simp⟩) hal hso hz (fun b hb => by have := hdp b hb; show X.A.units + 1 + 1 + _ < cLine; omega) fun out hl hout => ?_))
  obtain ⟨e', he'⟩ := PyProof.Rows.sortedHeap_at (vs := acc.toList) (out := List.toArray out) hoL
  have hlen : ((es.mergeSort (dataLe false encN)).map fun x => V.ref x.2.1).length ≤ sizeLine := by
    rw [List.length_map, List.length_mergeSort]; exact hz
  refine wpAny_pure ⟨_, rfl, .ref h'.objs.size, L2.upd H h'.objs.size (.lst ((es.mergeSort (dataLe false encN)).map fun x => V.ref x.2.1)), I1.laid (t' := tk) (fun b u e => ?_) (Nat.le_refl _)
    (show ObjOk X.prog X.w _ _ _ (.lst _) from ⟨hlen, out, e', each_vals hout, he'⟩), rfl, q _ (I1.hok.fresh (Nat.le_refl _))⟩
  have hb : b < h'.objs.size := Heap.lt_size e
  rw [PyProof.Rows.sortedHeap_old (Nat.ne_of_lt hb) (by rw [size_push']; exact Nat.lt_succ_of_lt hb)]
  exact Heap.get?_push_of_some _ e
end Dz

set_option Elab.async false
set_option linter.all false
set_option maxRecDepth 100000
set_option maxHeartbeats 2000000
/-! Dz: sorted(d) of a dict whose keys are tuples of one shape, by data. -/
namespace Dz
open PySem L2 PyProof.Rows
open PySem.W (EachIs AllAlike Sortable dataLe list_sort_data alike alikeAll dataLt keyToks keyToksAll)
noncomputable section
/-- 0 less, 1 the same, 2 more -/
def cmps (f : DV → DV → Nat) (xs ys : List DV) : Nat := List.rec (motive := fun _ => List DV → Nat) (fun ys => cnd (nilB ys) 1 0) (fun a _ ih ys => List.casesOn ys 2 fun b s => cnd (Nat.beq (f a b) 1) (ih s) (f a b)) xs ys
def cmpL (n : Nat) : DV → DV → Nat := Nat.rec (motive := fun _ => DV → DV → Nat) (fun x y => onI 3 x fun a => onI 3 y fun b => cnd (intLt a b) 0 (cnd (intEq a b) 1 2)) (fun _ ih x y => onT 3 x fun xs => onT 3 y fun ys => cmps ih xs ys) n
/-- ints; tuples of such; .. -/
def lev (n : Nat) : DV → Bool := Nat.rec (motive := fun _ => DV → Bool) (fun x => onI false x fun _ => true) (fun _ ih x => onT false x fun xs => allL ih xs) n
def insN (f : DV → DV → Nat) (a : DV) (l : List DV) : List DV := List.rec [a] (fun b r ih => cnd (Nat.beq (f b a) 0) (b :: ih) (a :: b :: r)) l
def sortN (f : DV → DV → Nat) (l : List DV) : List DV := List.rec [] (fun a _ ih => insN f a ih) l
end
/-! ### comparing -/
def Cmp (c : Nat) (x y : PyData) : Prop := (c = 0 ∧ dataLt x y = true ∧ PyData.eqv x y = false) ∨ (c = 1 ∧ dataLt x y = false ∧ PyData.eqv x y = true) ∨ (c = 2 ∧ dataLt x y = false ∧ PyData.eqv x y = false)
def Cmps (c : Nat) (xs ys : List PyData) : Prop := (c = 0 ∧ PySem.W.rowLt xs ys = true ∧ PyData.eqvAll xs ys = false) ∨ (c = 1 ∧ PySem.W.rowLt xs ys = false ∧ PyData.eqvAll xs ys = true) ∨ (c = 2 ∧ PySem.W.rowLt xs ys = false ∧ PyData.eqvAll xs ys = false)
theorem cmps_cons {c d : Nat} {x y : PyData} {xs ys : List PyData} (ha : alike x y = true) (h : Cmp c x y) (h2 : Cmps d xs ys) : Cmps (cnd (Nat.beq c 1) d c) (x :: xs) (y :: ys) := by
  have e : PySem.W.rowLt (x :: xs) (y :: ys) = if PyData.eqv x y = true then PySem.W.rowLt xs ys else dataLt x y := PySem.W.dataLt_cons ha xs ys
  have e2 : PyData.eqvAll (x :: xs) (y :: ys) = (PyData.eqv x y && PyData.eqvAll xs ys) := by rw [PyData.eqvAll]
  unfold Cmps at h2 ⊢
  rw [e, e2]
  rcases h with ⟨rfl, h1, h3⟩ | ⟨rfl, h1, h3⟩ | ⟨rfl, h1, h3⟩
  · rw [h1, h3]; exact .inl ⟨rfl, rfl, rfl⟩
  · rw [h3]; simpa [cnd] using h2
  · rw [h1, h3]; exact .inr (.inr ⟨rfl, rfl, rfl⟩)
theorem cmps_lists {n : Nat} (F : ∀ {x y : DV} {m : Nat} {k l : NestedKey}, toN m x = some k → toN m y = some l → lev n x = true → lev n y = true → Cmp (cmpL n x y) k.data l.data ∧ alike k.data l.data = true) {m : Nat} : ∀ {xs ys : List DV} {ks ls : List NestedKey},
    xs.mapM (toN m) = some ks → ys.mapM (toN m) = some ls → allL (lev n) xs = true → allL (lev n) ys = true → Cmps (cmps (cmpL n) xs ys) (NestedKey.datas ks) (NestedKey.datas ls) ∧ alikeAll (NestedKey.datas ks) (NestedKey.datas ls) = true
  | [], [], ks, ls, e, e', _, _ => by
    cases e; cases e'
    exact ⟨.inr (.inl ⟨rfl, rfl, rfl⟩), rfl⟩
  | [], y :: ys, ks, ls, e, e', _, _ => by
    cases e
    obtain ⟨l, r, _, _, rfl⟩ := mapM_cons e'
    exact ⟨.inl ⟨rfl, rfl, rfl⟩, rfl⟩
  | x :: xs, [], ks, ls, e, e', _, _ => by
    cases e'
    obtain ⟨l, r, _, _, rfl⟩ := mapM_cons e
    exact ⟨.inr (.inr ⟨rfl, rfl, rfl⟩), rfl⟩
  | x :: xs, y :: ys, ks, ls, e, e', h, h' => by
    obtain ⟨k, r, e1, e2, rfl⟩ := mapM_cons e
    obtain ⟨l, q, e3, e4, rfl⟩ := mapM_cons e'
    obtain ⟨h1, h2⟩ := cnd_and (show cnd (lev n x) (allL (lev n) xs) false = true from h)
    obtain ⟨h3, h4⟩ := cnd_and (show cnd (lev n y) (allL (lev n) ys) false = true from h')
    obtain ⟨g1, g2⟩ := F e1 e3 h1 h3
    obtain ⟨g3, g4⟩ := cmps_lists F e2 e4 h2 h4
    rw [NestedKey.datas, NestedKey.datas]
    exact ⟨cmps_cons g2 g1 g3, by rw [alikeAll, g2, g4]; rfl⟩
theorem cmp_ok : ∀ (n : Nat) {x y : DV} {m : Nat} {k l : NestedKey}, toN m x = some k → toN m y = some l → lev n x = true → lev n y = true → Cmp (cmpL n x y) k.data l.data ∧ alike k.data l.data = true
  | 0, x, y, m, k, l, e, e', h, h' => by
    obtain ⟨a, rfl, _⟩ := onI_of (show onI false x (fun _ => true) = true from h)
    obtain ⟨b, rfl, _⟩ := onI_of (show onI false y (fun _ => true) = true from h')
    cases m with
    | zero => cases e
    | succ m =>
      cases e; cases e'
      rw [NestedKey.data, NestedKey.data]
      refine ⟨?_, rfl⟩
      show Cmp (cnd (intLt a b) 0 (cnd (intEq a b) 1 2)) _ _
      unfold Cmp
      rw [PySem.W.dataLt_int, intLt_iff, intEq_iff, PyData.eqv]
      by_cases z : a < b
      · rw [decide_eq_true z]
        exact .inl ⟨rfl, rfl, by simp; omega⟩
      · rw [decide_eq_false z]
        by_cases z2 : a = b
        · rw [decide_eq_true z2]
          exact .inr (.inl ⟨rfl, rfl, by simp [z2]⟩)
        · rw [decide_eq_false z2]
          exact .inr (.inr ⟨rfl, rfl, by simp [z2]⟩)
  | n + 1, x, y, m, k, l, e, e', h, h' => by
    obtain ⟨xs, rfl, h⟩ := onT_of (show onT false x (fun xs => allL (lev n) xs) = true from h)
    obtain ⟨ys, rfl, h'⟩ := onT_of (show onT false y (fun xs => allL (lev n) xs) = true from h')
    cases m with
    | zero => cases e
    | succ m =>
      obtain ⟨ks, e1, rfl⟩ := toN_tup e
      obtain ⟨ls, e2, rfl⟩ := toN_tup e'
      obtain ⟨g1, g2⟩ := cmps_lists (n := n) (fun a b c d => cmp_ok n a b c d) e1 e2 h h'
      rw [NestedKey.data, NestedKey.data]
      refine ⟨?_, by rw [alike]; exact g2⟩
      show Cmp (cmps (cmpL n) xs ys) _ _
      unfold Cmp
      rw [PySem.W.dataLt_tuple, PyData.eqv]
      exact g1
/-! ### sorting -/
noncomputable def insE {α : Type} (le : α → α → Bool) (a : α) (l : List α) : List α := List.rec [a] (fun b r ih => cnd (le a b) (a :: b :: r) (b :: ih)) l
theorem insE_mid {α : Type} {le : α → α → Bool} {a : α} : ∀ {l1 l2 : List α}, (∀ b ∈ l1, le a b = false) → (∀ b ∈ l2, le a b = true) → insE le a (l1 ++ l2) = l1 ++ a :: l2
  | [], [], _, _ => rfl
  | [], b :: r, _, h => by
    show cnd (le a b) (a :: b :: r) _ = _
    rw [h b (List.mem_cons_self ..)]; rfl
  | b :: l1, l2, h, h2 => by
    show cnd (le a b) _ (b :: insE le a (l1 ++ l2)) = _
    rw [h b (List.mem_cons_self ..), insE_mid (fun c hc => h c (List.mem_cons_of_mem _ hc)) h2]; rfl
theorem ms_cons {α : Type} {le : α → α → Bool} (T : PySem.W.TotalLe le) (a : α) (l : List α) : (a :: l).mergeSort le = insE le a (l.mergeSort le) := by
  have tr : ∀ a b c, le a b = true → le b c = true → le a c = true := T.trans
  have to : ∀ a b, (le a b || le b a) = true := fun a b => by rcases T.total a b with h | h <;> simp [h]
  obtain ⟨l1, l2, h1, h2, h3⟩ := List.mergeSort_cons tr to a l
  rw [h1, h2, insE_mid (fun b hb => by simpa using h3 b hb)]
  have p := List.pairwise_mergeSort tr to (a :: l)
  rw [h1, List.pairwise_append] at p
  exact (List.pairwise_cons.mp p.2.1).1
section
variable {G : Gv} {ρ : List Loc} {H : Hp} {n : Nat}
def Pr (G : Gv) (ρ : List Loc) (H : Hp) (n : Nat) : List DV → List NE → Prop := Paired fun d e => toN 8 d = some e.1 ∧ lev n d = true ∧ RelD G ρ H d (.ref e.2.1)
theorem cmp_le {x y : DV} {e f : NE} (hx : toN 8 x = some e.1) (hy : toN 8 y = some f.1) (lx : lev n x = true) (ly : lev n y = true) : dataLe false encN e f = !(Nat.beq (cmpL n y x) 0) := by
  rw [PySem.W.dataLe_eq]
  show (!dataLt (encN f) (encN e)) = _
  rcases (cmp_ok n hy hx ly lx).1 with ⟨h1, h2, _⟩ | ⟨h1, h2, _⟩ | ⟨h1, h2, _⟩ <;> (rw [h1]; show (!dataLt f.1.data e.1.data) = _; rw [h2]; rfl)
theorem ins_pr {x : DV} {e : NE} (hx : toN 8 x = some e.1) (lx : lev n x = true) (rx : RelD G ρ H x (.ref e.2.1)) : ∀ {ds : List DV} {es : List NE}, Pr G ρ H n ds es → Pr G ρ H n (insN (cmpL n) x ds) (insE (dataLe false encN) e es)
  | [], [], _ => .cons ⟨hx, lx, rx⟩ .nil
  | [], _ :: _, h => by cases h
  | _ :: _, [], h => by cases h
  | y :: ds, f :: es, h => by
    cases h with
    | cons h1 h2 =>
      have ih := ins_pr hx lx rx h2
      show Pr G ρ H n (cnd (Nat.beq (cmpL n y x) 0) (y :: insN (cmpL n) x ds) (x :: y :: ds)) (cnd (dataLe false encN e f) (e :: f :: es) (f :: insE (dataLe false encN) e es))
      rw [cmp_le hx h1.1 lx h1.2.1]
      cases Nat.beq (cmpL n y x) 0 with
      | true => exact .cons h1 ih
      | false => exact .cons ⟨hx, lx, rx⟩ (.cons h1 h2)
theorem sort_pr : ∀ {ds : List DV} {es : List NE}, Pr G ρ H n ds es → Pr G ρ H n (sortN (cmpL n) ds) (es.mergeSort (dataLe false encN))
  | [], [], _ => by rw [List.mergeSort_nil]; exact .nil
  | [], _ :: _, h => by cases h
  | _ :: _, [], h => by cases h
  | x :: ds, e :: es, h => by
    cases h with
    | cons h1 h2 =>
      rw [show (e :: es).mergeSort (dataLe false encN) = insE (dataLe false encN) e (es.mergeSort (dataLe false encN)) from ms_cons (PySem.W.sortLe_total _ _ _) e es]
      exact ins_pr h1.1 h1.2.1 h1.2.2 (sort_pr h2)
theorem pr_rels : ∀ {ds : List DV} {es : List NE}, Pr G ρ H n ds es → RelDs G ρ H ds (es.map fun x => V.ref x.2.1)
  | _, _, .nil => rels_nil.mpr rfl
  | _, _, .cons h t => rels_cons.mpr ⟨_, _, rfl, h.2.2, pr_rels t⟩
theorem pr_of : ∀ {kvs : List DP} {es : List NE} {vs : List V}, NRel G ρ H kvs es vs → allL (lev n) (mapL fstP kvs) = true → Pr G ρ H n (mapL fstP kvs) es
  | [], [], _, _, _ => .nil
  | [], _ :: _, _, q, _ => by have := nrel_len q; simp at this
  | _ :: _, [], _, q, _ => by have := nrel_len q; simp at this
  | p :: kvs, y :: xs, vs, q, h => by
    obtain ⟨v, r, rfl, h1, h2, h3, h4, h5⟩ := nrel_cons.mp q
    obtain ⟨g1, g2⟩ := cnd_and (show cnd (lev n p.1) (allL (lev n) (mapL fstP kvs)) false = true from h)
    exact .cons ⟨h1, g1, h2⟩ (pr_of h5 g2)
theorem pr_mem : ∀ {ds : List DV} {es : List NE}, Pr G ρ H n ds es → ∀ e ∈ es, ∃ d ∈ ds, toN 8 d = some e.1 ∧ lev n d = true
  | _, _, .nil, e, he => nomatch he
  | _, _, .cons h t, e, he => by
    rcases List.mem_cons.mp he with z | z
    · subst z; exact ⟨_, List.mem_cons_self .., h.1, h.2.1⟩
    · obtain ⟨d, hd, q⟩ := pr_mem t e z
      exact ⟨d, List.mem_cons_of_mem _ hd, q⟩
end
theorem depth_of : ∀ (n : Nat) {d : DV} {k : NestedKey}, toN n d = some k → k.data.depth ≤ n
  | 0, d, k, e => by cases e
  | n + 1, d, k, e => by
    have all : ∀ (xs : List DV) (ks : List NestedKey), xs.mapM (toN n) = some ks → PyData.depthAll (NestedKey.datas ks) ≤ n := by
      intro xs
      induction xs with
      | nil => intro ks e; cases e; exact Nat.zero_le _
      | cons x xs ih =>
        intro ks e
        obtain ⟨k, ks', e1, e2, rfl⟩ := mapM_cons e
        have h1 := depth_of n e1
        have h2 := ih _ e2
        rw [NestedKey.datas, PyData.depthAll]
        omega
    cases d with
    | non => cases e; exact Nat.zero_le _
    | int i => cases e; exact Nat.zero_le _
    | str x => cases e; exact Nat.zero_le _
    | tup xs =>
      obtain ⟨ks, e1, rfl⟩ := toN_tup e
      have := all xs ks e1
      rw [NestedKey.data, PyData.depth]; omega
    | bl b => cases e
    | ref i => cases e
    | fn k c => cases e
    | exn k c => cases e
    | cl t => cases e
noncomputable section
def consT (d : DV) : Bool := onT false d fun xs => cnd (nilB xs) false true
def srtN (n : Nat) (ks : List DV) (h : DH) : RH := cnd (allL (lev n) ks) (cnd (allL consT ks) (newL (sortN (cmpL n) ks) h) none) none
def bSortN (n : Nat) : Bi := on1 fun x h => onR none x fun i => obN none (h.get i) fun kvs => srtN n (mapL fstP kvs) h
end
theorem allL_mem {p : DV → Bool} : ∀ {xs : List DV}, allL p xs = true → ∀ x ∈ xs, p x = true
  | [], _, x, hx => nomatch hx
  | y :: xs, h, x, hx => by
    obtain ⟨h1, h2⟩ := cnd_and (show cnd (p y) (allL p xs) false = true from h)
    rcases List.mem_cons.mp hx with z | z
    · rw [z]; exact h1
    · exact allL_mem h2 x z
theorem data_cons {d : DV} {k : NestedKey} {m : Nat} (e : toN m d = some k) (h : consT d = true) : ∃ x r, k.data = .tuple (x :: r) := by
  obtain ⟨xs, rfl, h⟩ := onT_of h
  cases m with
  | zero => cases e
  | succ m =>
    obtain ⟨ks, e1, rfl⟩ := toN_tup e
    cases xs with
    | nil => cases h
    | cons x xs =>
      obtain ⟨k, r, _, _, rfl⟩ := mapM_cons e1
      exact ⟨k.data, NestedKey.datas r, by rw [NestedKey.data, NestedKey.datas]⟩
end Dz

set_option Elab.async false
set_option linter.all false
set_option maxRecDepth 100000
set_option maxHeartbeats 2000000
/-! Dz: sorted(d) of a dict whose keys are tuples of one shape, as a rule; the printer's rules for such dicts. -/
namespace Dz
open PySem L2 PyProof.Rows
open PySem.W (EachIs AllAlike Sortable dataLe list_sort_data alike alikeAll dataLt keyToks keyToksAll)
theorem ok_sortN (n : Nat) {X : Cx} (hc : X.calm = true) : BcOk X (.builtin "sorted") (bSortN n) := by
  refine ⟨_, call_sortedN hc, fun C ρ dh fr σ H ds vs k Q hX st rr ko h => ?_⟩
  subst hX
  obtain ⟨x, rfl, h⟩ := on1_h h
  obtain ⟨v, rfl, r⟩ := rels1 rr
  cases x with
  | ref i =>
    have h : kh (obN none (dh.get i) fun kvs => srtN n (mapL fstP kvs) dh) k = true := h
    cases q : dh.get i with
    | none => rw [q] at h; cases h
    | some o =>
      rw [q] at h
      cases o with
      | busy kvs =>
        have h : kh (cnd (allL (lev n) (mapL fstP kvs)) (cnd (allL consT (mapL fstP kvs)) (newL (sortN (cmpL n) (mapL fstP kvs)) dh) none) none) k = true := h
        cases q1 : allL (lev n) (mapL fstP kvs) with
        | false => rw [q1] at h; cases h
        | true =>
          cases q2 : allL consT (mapL fstP kvs) with
          | false => rw [q1, q2] at h; cases h
          | true =>
            rw [q1, q2] at h
            have h : kh (newL (sortN (cmpL n) (mapL fstP kvs)) dh) k = true := h
            obtain ⟨p, rfl, ea, xs, us, hp, nr⟩ := st_busy st r q
            rw [show C.G.w = C.X.w from C.hw] at hp
            have pr := pr_of nr q1
            refine ⟨p, xs, rfl, by have := C.hu; omega, hp, fun d hd d' hd' => ?_, .inl fun d hd => ?_, fun e he => ?_, fun hh ok => nrel_reads ok nr, fun b hb => ko.lst st (pr_rels (sort_pr pr)) h b hb⟩
            · obtain ⟨e, he, rfl⟩ := List.mem_map.mp hd
              obtain ⟨e', he', rfl⟩ := List.mem_map.mp hd'
              obtain ⟨d, _, g1, g2⟩ := pr_mem pr e he
              obtain ⟨d', _, g3, g4⟩ := pr_mem pr e' he'
              exact (cmp_ok n g1 g3 g2 g4).2
            · obtain ⟨e, he, rfl⟩ := List.mem_map.mp hd
              obtain ⟨d, hd, g1, g2⟩ := pr_mem pr e he
              exact data_cons g1 (allL_mem q2 d hd)
            · obtain ⟨d, hd, g1, g2⟩ := pr_mem pr e he
              exact depth_of 8 g1
      | _ => cases h
  | _ => cases h
end Dz

set_option Elab.async false
set_option linter.all false
set_option maxRecDepth 100000
set_option maxHeartbeats 4000000
/-! Dz: a body cut at a check; loops and calls by what holds behind them (whatever is drawn). -/
namespace Dz
open PySem L2
/-! ### a body cut in two: the first part comes to a state that is checked; the second part goes on from any such state -/
open Classical in
noncomputable def sThenC (chk : Fr → DH → Bool) (s r : Sx) : Sx := fun fr h nx rt ex bk ct => decide (s fr h chk rt ex bk ct = true ∧ ∀ fr' h', chk fr' h' = true → r fr' h' nx rt ex bk ct = true)
section
variable {C : Sc} {st : Stmt} {sts : List Stmt} {a b : Sx} {chk : Fr → DH → Bool}
open Classical in
theorem s_then (h1 : PS C.X st (C.S a)) (h2 : PSs C.X sts (C.S b)) : PSs C.X (st :: sts) (C.S (sThenC chk a b)) := pss_imp (pss_cons h1 h2) fun D σ H ⟨ρ, dh, fr, nx, rt, ex, bk, ct, s0, kn, kr, ke, kb, kc, h⟩ => by
  obtain ⟨h1, h2⟩ := of_decide_eq_true h
  exact ⟨ρ, dh, fr, chk, rt, ex, bk, ct, s0, fun ρ' dh' fr' σ' H' st' le q => ⟨ρ', dh', fr', nx, rt, ex, bk, ct, st', kn.later le, kr.later le, ke.later le, kb.later le, kc.later le, h2 _ _ q⟩, kr, ke, kb, kc, h1⟩
end
open Classical in
theorem then_ok {chk : Fr → DH → Bool} {s r : Sx} {fr : Fr} {h : DH} {nx : KN} {rt : KV} {ex : KE} {bk ct : KN} (h1 : s fr h chk rt ex bk ct = true) (h2 : ∀ fr' h', chk fr' h' = true → r fr' h' nx rt ex bk ct = true) : sThenC chk s r fr h nx rt ex bk ct = true := decide_eq_true ⟨h1, h2⟩
/-! ### heaps that grow -/
theorem Ext.trans {a b c : DH} (x : Ext a b) (y : Ext b c) : Ext a c := ⟨Nat.le_trans x.le y.le, fun i hi => by rw [y.same i (Nat.lt_of_lt_of_le hi x.le), x.same i hi]⟩
theorem Ext.new (h : DH) (o : DObj) : Ext h (h.new o) := ⟨Nat.le_succ _, fun i hi => get_new_ne h o (Nat.ne_of_lt hi)⟩
theorem Ext.put {h h' : DH} (x : Ext h h') {i : Nat} (hi : h.n ≤ i) (o : DObj) : Ext h (h'.put i o) := ⟨x.le, fun j hj => by rw [get_put_ne h' o (by omega)]; exact x.same j hj⟩
theorem Ext.get {h h' : DH} (x : Ext h h') {i : Nat} {o : DObj} (hi : i < h.n) (e : h.get i = some o) : h'.get i = some o := by rw [x.same i hi]; exact e
/-! ### steps -/
section
variable {a b : Ex} {es : Exs} {fr : Fr} {h h' : DH} {P P2 : DV → DH → Prop} {Q : List DV → DH → Prop} {d : DV} {call : Call} {j : Nat} {as : List DV} {pm : List PArg} {g : Gx} {s r : Sx} {t : Tx} {R : Fr → DH → Prop}
theorem ca_cv (c : Cv call j as h d h') (p : P d h') : Ca call j as h P := fun kx k hk => by rw [c]; exact hk _ _ p
theorem ca_imp (c : Ca call j as h P) (i : ∀ d h', P d h' → P2 d h') : Ca call j as h P2 := fun kx k hk => c kx k fun d h' p => hk _ _ (i _ _ p)
theorem sa_imp {R2 : Fr → DH → Prop} (c : Sa s fr h R) (i : ∀ f h', R f h' → R2 f h') : Sa s fr h R2 := fun nx rt ex bk ct hk => c _ _ _ _ _ fun d h' p => hk _ _ (i _ _ p)
theorem sa_sv {fr2 : Fr} (e : Sv s fr h fr2 h') (p : R fr2 h') : Sa s fr h R := fun nx rt ex bk ct hk => by rw [e]; exact hk _ _ p
theorem sa_seq2 {R1 : Fr → DH → Prop} (h1 : Sa s fr h R1) (h2 : ∀ f h', R1 f h' → Sa r f h' R) : Sa (sSeq s r) fr h R := fun nx rt ex bk ct hk => h1 _ _ _ _ _ fun f h' p => h2 f h' p _ _ _ _ _ hk
theorem sa_expr (e : Ea a fr h P) (i : ∀ d h', P d h' → R fr h') : Sa (sExpr a) fr h R := fun nx rt ex bk ct hk => e _ _ fun d h' p => hk _ _ (i d h' p)
theorem ea_bin0 {f : DV → DV → Option DV} (ha : Ea a fr h P) (hb : ∀ x h1, P x h1 → Ea b fr h1 (fun y h2 => ∃ z, f x y = some z ∧ P2 z h2)) : Ea (cBin0 f a b) fr h P2 := fun kx k hk => ha kx _ fun x h1 p => hb x h1 p kx _ fun y h2 ⟨z, e, q⟩ => by
  show ko (f x y) h2 k = true
  rw [e]; exact hk _ _ q
theorem ea_bc {f : Bi} (hs : Eas es fr h (fun ds h1 => ∃ z h2, f ds h1 = some (z, h2) ∧ P z h2)) : Ea (cBc f es) fr h P := fun kx k hk => hs kx _ fun ds h1 ⟨z, h2, e, q⟩ => by
  show kh (f ds h1) k = true
  rw [e]; exact hk _ _ q
theorem ea_cmp {neg : Bool} {f : DV → DV → DH → T3} (ha : Ea a fr h P) (hb : ∀ x h1, P x h1 → Ea b fr h1 (fun y h2 => ∃ q : Bool, f x y h2 = ofB q ∧ P2 (.bl (cnd q (not neg) neg)) h2)) : Ea (cCmp neg f a b) fr h P2 := fun kx k hk => ha kx _ fun x h1 p => hb x h1 p kx _ fun y h2 ⟨q, e, z⟩ => by
  show ko (t3 neg (f x y h2)) h2 k = true
  rw [e]
  cases q <;> exact hk _ _ z
/-- a test -/
def Ta (t : Tx) (fr : Fr) (h : DH) (P : Bool → DH → Prop) : Prop := ∀ (kx : KX) (k : Bool → DH → Bool), (∀ d h', P d h' → k d h' = true) → t fr h kx k = true
theorem ta_of {P : Bool → DH → Prop} (ha : Ea a fr h (fun d h' => ∃ b, d = .bl b ∧ P b h')) : Ta (cTest a) fr h P := fun kx k hk => ha kx _ fun d h' ⟨b, e, p⟩ => by
  subst e; exact hk _ _ p
theorem ta_and {u : Tx} {P P1 : Bool → DH → Prop} (ht : Ta t fr h P1) (hu : ∀ h', P1 true h' → Ta u fr h' P) (hf : ∀ h', P1 false h' → P false h') : Ta (tAnd t u) fr h P := fun kx k hk => ht kx _ fun b h' p => by
  cases b with
  | true => exact hu h' p kx k hk
  | false => exact hk _ _ (hf h' p)
theorem ta_or {u : Tx} {P P1 : Bool → DH → Prop} (ht : Ta t fr h P1) (hu : ∀ h', P1 false h' → Ta u fr h' P) (hf : ∀ h', P1 true h' → P true h') : Ta (tOr t u) fr h P := fun kx k hk => ht kx _ fun b h' p => by
  cases b with
  | false => exact hu h' p kx k hk
  | true => exact hk _ _ (hf h' p)
/-- a test that is never so -/
theorem sa_iff {R1 : DH → Prop} (ht : Ta t fr h (fun b h' => b = false ∧ R1 h')) (hs : ∀ h', R1 h' → Sa r fr h' R) : Sa (sIf t s r) fr h R := fun nx rt ex bk ct hk => ht _ _ fun b h' ⟨e, p⟩ => by
  subst e; exact hs h' p _ _ _ _ _ hk
theorem sa_nil (p : R fr h) : Sa sNil fr h R := fun nx rt ex bk ct hk => hk _ _ p
theorem onO_k {α : Type} {o : Option α} {x : α} {k : Bool} (e : o = some x) (hk : k = true) : onO false o (fun _ => k) = true := by rw [e]; exact hk
/-! a loop over a list that stands -/
theorem for_sq {i l : Nat} {xs : List DV} {Inv : Fr → DH → Prop} {nx : KN} {rt : KV} {ex : KE} (hg : ∀ fr h, Inv fr h → h.get l = some (.lst xs)) (hs : ∀ x ∈ xs, ∀ fr h, Inv fr h → Sa s (setAt fr i (some x)) h Inv) (hn : ∀ fr h, Inv fr h → nx fr h = true) :
    ∀ (m q fuel : Nat) (fr : Fr) (h : DH), q + m = xs.length → m < fuel → Inv fr h → forLoop (gNm i) (.sq (.ref l)) s nx rt ex fuel q fr h = true
  | m, q, 0, fr, h, e, hf, iv => absurd hf (Nat.not_lt_zero _)
  | 0, q, fuel + 1, fr, h, e, hf, iv => by
    show turn (onO none (obL none (h.get l) some) fun xs => some (nth xs q)) (nx fr h) _ = true
    rw [hg fr h iv]
    show turn (some (nth xs q)) (nx fr h) _ = true
    rw [nth_eq, List.getElem?_eq_none (by omega)]
    exact hn fr h iv
  | m + 1, q, fuel + 1, fr, h, e, hf, iv => by
    show turn (onO none (obL none (h.get l) some) fun xs => some (nth xs q)) (nx fr h) (fun x => s (setAt fr i (some x)) h (forLoop (gNm i) (.sq (.ref l)) s nx rt ex fuel (Nat.succ q)) rt ex nx (forLoop (gNm i) (.sq (.ref l)) s nx rt ex fuel (Nat.succ q))) = true
    rw [hg fr h iv]
    show turn (some (nth xs q)) (nx fr h) _ = true
    have hq : q < xs.length := by omega
    rw [nth_eq, List.getElem?_eq_getElem hq]
    exact hs _ (List.getElem_mem hq) fr h iv _ _ _ _ _ fun fr' h' p => for_sq hg hs hn m (q + 1) fuel fr' h' (by omega) (by omega) p
theorem sa_for_sq {i : Nat} {Inv : Nat → List DV → Fr → DH → Prop} (ha : Ea a fr h (fun d h1 => ∃ l xs, d = .ref l ∧ xs.length < 100000 ∧ Inv l xs fr h1)) (hg : ∀ l xs fr h, Inv l xs fr h → h.get l = some (.lst xs))
    (hs : ∀ l xs x, x ∈ xs → ∀ fr h, Inv l xs fr h → Sa s (setAt fr i (some x)) h (Inv l xs)) (hr : ∀ l xs fr h, Inv l xs fr h → R fr h) : Sa (sFor (gNm i) (iSeq a) s) fr h R := fun nx rt ex bk ct hk => ha _ _ fun d h1 ⟨l, xs, e, hl, iv⟩ => by
  subst e
  have e : seqOf (.ref l) h1 = some xs := by
    show obL none (h1.get l) some = _
    rw [hg _ _ _ _ iv]; rfl
  exact onO_k e (for_sq (Inv := Inv l xs) (hg l xs) (fun x hx fr h iv => hs l xs x hx fr h iv) (fun fr h iv => hk _ _ (hr _ _ _ _ iv)) xs.length 0 lcF fr h1 (Nat.zero_add _) hl iv)
/-! a while, by a measure -/
theorem wh_go {Inv : Nat → Fr → DH → Prop} {nx : KN} {rt : KV} {ex : KE} (hs : ∀ m fr h, Inv m fr h → Ta t fr h (fun b h' => (b = false ∧ nx fr h' = true) ∨ (b = true ∧ Sa s fr h' (fun fr2 h2 => ∃ m2, m2 < m ∧ Inv m2 fr2 h2)))) :
    ∀ (fuel m : Nat) (fr : Fr) (h : DH), m < fuel → Inv m fr h → whLoop t s nx rt ex fuel fr h = true
  | 0, m, fr, h, hf, iv => absurd hf (Nat.not_lt_zero _)
  | fuel + 1, m, fr, h, hf, iv => by
    show t fr h (kxOf ex fr) (fun c h => cnd c (s fr h (whLoop t s nx rt ex fuel) rt ex nx (whLoop t s nx rt ex fuel)) (nx fr h)) = true
    refine hs m fr h iv _ _ fun b h' p => ?_
    rcases p with ⟨rfl, p⟩ | ⟨rfl, p⟩
    · exact p
    · exact p _ _ _ _ _ fun fr2 h2 ⟨m2, hm, iv2⟩ => wh_go hs fuel m2 fr2 h2 (by omega) iv2
theorem sa_while {Inv : Nat → Fr → DH → Prop} {m : Nat} (hm : m < 100000) (iv : Inv m fr h) (hs : ∀ m fr h, Inv m fr h → Ta t fr h (fun b h' => (b = false ∧ R fr h') ∨ (b = true ∧ Sa s fr h' (fun fr2 h2 => ∃ m2, m2 < m ∧ Inv m2 fr2 h2)))) : Sa (sWhile t s) fr h R := fun nx rt ex bk ct hk =>
  wh_go (fun m fr h iv => fun kx k hk' => hs m fr h iv kx k fun b h' p => hk' b h' (p.imp (fun ⟨e, r⟩ => ⟨e, hk _ _ r⟩) id)) lcF m fr h hm iv
/-! a comprehension -/
theorem lcA_go {q : It} {n : Nat} {fr0 : Fr} {Inv : Nat → DH → List DV → Prop} {k : List DV → DH → Bool} (hend : ∀ h acc, Inv n h acc → q.nxt n h = some none) (hk : ∀ h acc, Inv n h acc → k acc h = true)
    (hs : ∀ i, i < n → ∀ h acc, Inv i h acc → ∃ x fr1 h1, q.nxt i h = some (some x) ∧ Go g x fr0 h fr1 h1 ∧ Ea a fr1 h1 (fun d h2 => Inv (i + 1) h2 (d :: acc))) :
    ∀ (m i fuel : Nat) (h : DH) (acc : List DV), i + m = n → m < fuel → Inv i h acc → lcLoop a g q fr0 k fuel i h acc = true
  | m, i, 0, h, acc, e, hf, iv => absurd hf (Nat.not_lt_zero _)
  | 0, i, f + 1, h, acc, e, hf, iv => by
    have : i = n := by omega
    subst this
    show turn (q.nxt i h) (k acc h) _ = true
    rw [hend h acc iv]; exact hk h acc iv
  | m + 1, i, f + 1, h, acc, e, hf, iv => by
    obtain ⟨x, fr1, h1, e1, e2, e3⟩ := hs i (by omega) h acc iv
    show turn (q.nxt i h) (k acc h) (fun x => g x fr0 h fun fr h => a fr h noK fun d h => lcLoop a g q fr0 k f (Nat.succ i) h (d :: acc)) = true
    rw [e1]
    show g x fr0 h (fun fr h => a fr h noK fun d h => lcLoop a g q fr0 k f (Nat.succ i) h (d :: acc)) = true
    rw [e2]
    exact e3 _ _ fun d h2 p => lcA_go hend hk hs m (i + 1) f h2 (d :: acc) (by omega) (by omega) p
theorem ea_lc {it : Ix} {q : It} {n : Nat} {drop : List Nat} {h1 : DH} {Inv : Nat → DH → List DV → Prop} (hi : Iv it fr h q h1) (hn : n < 100000) (h0 : Inv 0 h1 []) (hend : ∀ h acc, Inv n h acc → q.nxt n h = some none) (hk : ∀ h acc, Inv n h acc → P (.ref h.n) (h.new (.lst acc.reverse)))
    (hs : ∀ i, i < n → ∀ h acc, Inv i h acc → ∃ x fr1 h1, q.nxt i h = some (some x) ∧ Go g x (bDrop drop fr) h fr1 h1 ∧ Ea a fr1 h1 (fun d h2 => Inv (i + 1) h2 (d :: acc))) : Ea (cLc drop a g it) fr h P := fun kx k hk' => by
  show it fr h kx (fun j h => lcLoop a g j (bDrop drop fr) (lcEnd k) lcF 0 h []) = true
  rw [hi]
  refine lcA_go hend (fun h acc iv => ?_) hs n 0 lcF h1 [] (by omega) hn h0
  show k (.ref h.n) (h.new (.lst (revO acc []))) = true
  rw [revO_eq, List.append_nil]
  exact hk' _ _ (hk h acc iv)
/-! a call of a body -/
theorem ca_body {fns : Nat → FnD} {q np more : Nat} {bd : Call → Sx} (hj : fns j = .body np [] more bd) (hl : lenN as = np)
    (hb : ∀ (kx : KX) (k : KV), (∀ d h', P d h' → k d h' = true) → bd (callK fns q) (plainFr more as) h (fun _ h => k .non h) k (fun c fs _ h => kx c fs h) noN noN = true) : Ca (callK fns (q + 1)) j as h P := fun kx k hk => by
  rw [call_run hj hl]; exact hb kx k hk
theorem ret_ok {rt : KV} {nx : KN} {ex : KE} {bk ct : KN} (ha : Ea a fr h P) (hk : ∀ d h', P d h' → rt d h' = true) : sRet a fr h nx rt ex bk ct = true := ha _ _ hk
end
/-! ### draws -/
section
variable {fns : Nat → FnD} {q jd jp : Nat} {bp : Call → Sx} {fr : Fr} {h : DH}
noncomputable def csX (d : Ex) (cs : List Nat) : Exs := List.rec (cCons d cNil) (fun c _ ih => cCons (cCst (.int (.ofNat c))) ih) cs
theorem eas_csX {d : Ex} {n : Nat} {fr : Fr} {h : DH} (hd : Ea d fr h (fun x h' => h' = h ∧ ∃ z : Nat, x = .int (.ofNat z) ∧ z < n)) : ∀ cs : List Nat, Eas (csX d cs) fr h (fun ds h' => h' = h ∧ ∃ z : Nat, z < n ∧ ds = cs.map (fun c => DV.int (.ofNat c)) ++ [.int (.ofNat z)])
  | [] => eas_cons hd fun x h1 ⟨e, z, ex, hz⟩ => by subst e ex; exact eas_nil ⟨rfl, z, hz, rfl⟩
  | c :: cs => eas_cons (P := fun x h' => x = .int (.ofNat c) ∧ h' = h) (ea_ev ev_cst ⟨rfl, rfl⟩) fun x h1 ⟨e1, e2⟩ => by
    subst e1 e2
    exact fun kx k hk => eas_csX hd cs kx k fun ds h' ⟨e, z, hz, e2⟩ => hk ds h' ⟨e, z, hz, by rw [e2]; rfl⟩
/-- the draw of a number below what an expression tells -/
theorem ea_draw {e : Ex} {n : Nat} {h' : DH} (hd : fns jd = .nat drawN) (hv : nth fr 0 = some (some (.ref 0))) (pot : h'.get 0 = some .pot) (he : Ev e fr h (.int (.ofNat n)) h') (h0 : 0 < n) (h1 : n < 2 ^ 62) :
    Ea (cCall (callK fns (q + 1)) jd [.at_ 0, .at_ 1] (cCons (cVar 0) (cCons e cNil))) fr h (fun x h2 => h2 = h' ∧ ∃ z : Nat, x = .int (.ofNat z) ∧ z < n) := by
  refine ea_call (eas_cons (P := fun x h' => x = .ref 0 ∧ h' = h) (ea_ev (ev_var hv) ⟨rfl, rfl⟩) fun x h1 p => ?_)
  obtain ⟨rfl, rfl⟩ := p
  refine eas_cons (P := fun x h2 => x = .int (.ofNat n) ∧ h2 = h') (ea_ev he ⟨rfl, rfl⟩) fun x h2 p => ?_
  obtain ⟨rfl, rfl⟩ := p
  refine eas_nil ⟨_, rfl, ca_imp (ca_draw (n := (n : Int)) hd pot (by omega) (by omega)) fun d h' ⟨e1, z, e2, hz⟩ => ⟨e1, z, e2, by omega⟩⟩
/-- a pick of written numbers and one that is drawn -/
theorem ea_pick (hd : fns jd = .nat drawN) (hj : fns jp = .body 2 [] 0 bp) (hb : bp = fun call => pickBd call jd) (n : Nat) (cs : List Nat) (hv : nth fr 0 = some (some (.ref 0))) (pot : h.get 0 = some .pot) (hp : 0 ≠ h.n) (h0 : 0 < n) (h1 : n < 2 ^ 62) (hl : cs.length < 2 ^ 60) :
    Ea (cCall (callK fns (q + 2)) jp [.at_ 0, .at_ 1] (cCons (cVar 0) (cCons (cLst (csX (cCall (callK fns (q + 2)) jd [.at_ 0, .at_ 1] (cCons (cVar 0) (cCons (cCst (.int (.ofNat n))) cNil))) cs)) cNil))) fr h (fun x h' => ∃ (z : Nat) (g : DObj), x = .int (.ofNat z) ∧ (z < n ∨ z ∈ cs) ∧ h' = h.new g) := by
  refine ea_call (eas_cons (P := fun x h' => x = .ref 0 ∧ h' = h) (ea_ev (ev_var hv) ⟨rfl, rfl⟩) fun x h1 p => ?_)
  obtain ⟨rfl, rfl⟩ := p
  refine eas_cons (P := fun x h' => ∃ z : Nat, z < n ∧ x = .ref h1.n ∧ h' = h1.new (.lst (cs.map (fun c => DV.int (.ofNat c)) ++ [.int (.ofNat z)]))) (ea_lst ?_) fun x h2 p => ?_
  · exact fun kx k hk => eas_csX (ea_draw hd hv pot ev_cst h0 (by assumption)) cs kx k fun ds h' ⟨e, z, hz, e2⟩ => hk ds h' ⟨z, hz, by rw [e], by rw [e, e2]⟩
  · obtain ⟨z, hz, rfl, rfl⟩ := p
    refine eas_nil ⟨_, rfl, fun kx k hk => ca_pick (fns := fns) (bp := bp) (jd := jd) hj hb hd (by rw [get_new_ne _ _ hp]; exact pot) (get_new_same h1 _) (by simp) (by rw [List.length_append, List.length_map]; simp; omega) kx k fun d h' p => hk d h' ?_⟩
    obtain ⟨rfl, hd⟩ := p
    rcases List.mem_append.mp hd with hd | hd
    · obtain ⟨c, hc, rfl⟩ := List.mem_map.mp hd
      exact ⟨c, _, rfl, .inr hc, rfl⟩
    · have : d = .int (.ofNat z) := by simpa using hd
      exact ⟨z, _, this, .inl hz, rfl⟩
end
end Dz
namespace Dz
open PySem L2
section
variable {C : Sc} {st st2 : Stmt} {sts : List Stmt} {a b c : Sx} {chk : Fr → DH → Bool}
open Classical in
/-- two statements ahead of the cut -/
theorem s_then2 (h1 : PS C.X st (C.S a)) (h1' : PS C.X st2 (C.S c)) (h2 : PSs C.X sts (C.S b)) : PSs C.X (st :: st2 :: sts) (C.S (sThenC chk (sSeq a c) b)) := pss_imp (pss_cons h1 (pss_cons h1' h2)) fun D σ H ⟨ρ, dh, fr, nx, rt, ex, bk, ct, s0, kn, kr, ke, kb, kc, h⟩ => by
  obtain ⟨h1, h2⟩ := of_decide_eq_true h
  refine ⟨ρ, dh, fr, _, rt, ex, bk, ct, s0, fun ρ1 dh1 fr1 σ1 H1 st1 le1 q1 => ?_, kr, ke, kb, kc, h1⟩
  exact ⟨ρ1, dh1, fr1, chk, rt, ex, bk, ct, st1, fun ρ' dh' fr' σ' H' st' le q => ⟨ρ', dh', fr', nx, rt, ex, bk, ct, st', kn.later (le1.trans le), kr.later (le1.trans le), ke.later (le1.trans le), kb.later (le1.trans le), kc.later (le1.trans le), h2 _ _ q⟩, kr.later le1, ke.later le1, kb.later le1, kc.later le1, q1⟩
end
theorem cv_fall {fns : Nat → FnD} {q np more j : Nat} {as : List DV} {h h1 : DH} {fr : Fr} {bd : Call → Sx} (hj : fns j = .body np [] more bd) (hl : lenN as = np) (hb : Sv (bd (callK fns q)) (plainFr more as) h fr h1) : Cv (callK fns (q + 1)) j as h .non h1 := fun kx k => by
  rw [call_run hj hl]; exact hb _ _ _ _ _
theorem le_I {a b : Int} {h : DH} : leC (.int a) (.int b) h = ofB (decide (a ≤ b)) := by
  show not3 (ofB (intLt b a)) = _
  rw [intLt_iff]
  by_cases z : b < a
  · rw [decide_eq_true z, decide_eq_false (by omega)]; rfl
  · rw [decide_eq_false z, decide_eq_true (by omega)]; rfl
theorem ge_I {a b : Int} {h : DH} : geC (.int a) (.int b) h = ofB (decide (b ≤ a)) := by
  show not3 (ofB (intLt a b)) = _
  rw [intLt_iff]
  by_cases z : a < b
  · rw [decide_eq_true z, decide_eq_false (by omega)]; rfl
  · rw [decide_eq_false z, decide_eq_true (by omega)]; rfl
theorem lt_s {n : Nat} {P : Nat → Prop} (r : ∀ m, m < n → P m) (h : P n) : ∀ m, m < n + 1 → P m := fun m hm => by
  rcases Nat.lt_or_eq_of_le (Nat.le_of_lt_succ hm) with z | z
  · exact r m z
  · rw [z]; exact h
theorem lt_0 {P : Nat → Prop} : ∀ m, m < 0 → P m := fun m h => absurd h (Nat.not_lt_zero m)
/-- a list of plain values, or tuples of such, is no empty list -/
theorem isData_s (h : DH) (n : Nat) (x : DV) : isData h (n + 1) x = dataStep h (isData h n) x := rfl
theorem allL_of {α : Type} {p : α → Bool} {xs : List α} (h : ∀ x ∈ xs, p x = true) : allL p xs = true := by rw [allL_eq, List.all_eq_true]; exact h
/-- words: tuples of whole numbers -/
def wd (w : List Nat) : DV := .tup (w.map fun c => .int (.ofNat c))
theorem data_wd (h : DH) (n : Nat) (w : List Nat) : isData h (n + 2) (wd w) = true := by
  rw [isData_s]
  show allL (isData h (n + 1)) _ = true
  refine allL_of fun x hx => ?_
  obtain ⟨c, _, rfl⟩ := List.mem_map.mp hx
  rfl
theorem data_wds {h : DH} {i : Nat} {ws : List (List Nat)} (e : h.get i = some (.lst (ws.map wd))) (n : Nat) : isData h (n + 3) (.ref i) = true := by
  rw [isData_s]
  show obL false (h.get i) (allL (isData h (n + 2))) = true
  rw [e]
  refine allL_of fun x hx => ?_
  obtain ⟨w, _, rfl⟩ := List.mem_map.mp hx
  exact data_wd h n w
theorem data_nil {h : DH} {i : Nat} (e : h.get i = some (.lst [])) (n : Nat) : isData h (n + 1) (.ref i) = true := by
  rw [isData_s]
  show obL false (h.get i) (allL (isData h n)) = true
  rw [e]; rfl
/-- a list of words against [] -/
theorem eq_nilW {h : DH} {i j : Nat} {ws : List (List Nat)} (e : h.get i = some (.lst (ws.map wd))) (e2 : h.get j = some (.lst [])) : eqC (.ref i) (.ref j) h = ofB (decide (ws = [])) := by
  show cnd (cnd (isData h eqF (.ref i)) (isData h eqF (.ref j)) false) (eqD h eqF (.ref i) (.ref j)) .un = _
  rw [data_wds e 37, data_nil e2 39]
  show obL .un (h.get i) (fun a => obL .un (h.get j) fun b => eqs (eqD h 39) a b) = _
  rw [e, e2]
  cases ws with
  | nil => rfl
  | cons w r => rfl
end Dz
namespace Dz
open PySem L2
section
variable {C : Sc} {a b c : Expr} {t : Exs} {i j l : Nat} {x y z : Str} {px py pz pt pos : Pos} {kt k2 : Nat} {pt2 : Pos}
theorem z_par3 (ha : PA C.X [a, b, c] (C.Es 3 t)) (hi : C.X.N[i]? = some x := by rfl) (hj : C.X.N[j]? = some y := by rfl) (hl : C.X.N[l]? = some z := by rfl) (hij : Nat.beq i j = false := by rfl) (hil : Nat.beq i l = false := by rfl) (hjl : Nat.beq j l = false := by rfl)
    (hx : locO (C.X.env.scope.names.lookup x) = true := by rfl) (hy : locO (C.X.env.scope.names.lookup y) = true := by rfl) (hz : locO (C.X.env.scope.names.lookup z) = true := by rfl)
    (hic : List.elem i C.cs = false := by rfl) (hjc : List.elem j C.cs = false := by rfl) (hlc : List.elem l C.cs = false := by rfl) (hc : C.X.calm = true := by rfl)
    (hw : swappedStores [.Tuple [.Name x px, .Name y py, .Name z pz] kt pt] (.Tuple [a, b, c] k2 pt2) C.X.env = pure (some [x, y, z]) := by rfl)
    (hs : swapsWithSole [.Tuple [.Name x px, .Name y py, .Name z pz] kt pt] (.Tuple [a, b, c] k2 pt2) pos.line C.X.env = pure false := by rfl) :
    PS C.X (.Assign [.Tuple [.Name x px, .Name y py, .Name z pz] kt pt] (.Tuple [a, b, c] k2 pt2) pos) (C.S (sPar3 i j l t)) := by
  have ne : ∀ {m n : Nat}, Nat.beq m n = false → m ≠ n := fun q z => by subst z; rw [Nat.beq_refl] at q; cases q
  refine ps_imp (ps_par3 hc C.hN hi hj hl (ne hij) (ne hil) (ne hjl) (locO_ok hx) (locO_ok hy) (locO_ok hz) ha hw hs) fun D σ H ⟨ρ, dh, fr, nx, rt, ex, bk, ct, st, kn, kr, ke, kb, kc, h⟩ => ?_
  refine Es_then st ke.xo h fun ρ1 dh1 H1 ds vs st1 le1 rr z1 h1 => ?_
  match ds, z1 with
  | [d, e, f], _ =>
    obtain ⟨u, r, rfl, r1, rr⟩ := rels_cons.mp rr
    obtain ⟨v, w, rfl, r2, r3⟩ := rels2 rr
    exact ⟨u, v, w, rfl, kn ρ1 dh1 _ _ H1 (st_name (st_name (st_name st1 (nin hic) r1) (nin hjc) r2) (nin hlc) r3) le1 h1⟩
end
end Dz

set_option Elab.async false
set_option linter.all false
set_option maxRecDepth 100000
set_option maxHeartbeats 4000000
/-! Dz: what the operations on lists and words give, by hand. -/
namespace Dz
open PySem L2
section
variable {h : DH} {i j n : Nat} {xs ys : List DV} {x d : DV}
theorem rng_0 {i n : Nat} (hi : i < n) : (It.rng 0 n).nxt i h = some (some (.int (.ofNat i))) := by
  rw [rng_at hi]
  have : Int.add 0 (Int.ofNat i) = Int.ofNat i := Int.zero_add _
  rw [this]
theorem fits_of (hn : n ≤ 16777216) : fits n = true := Nat.ble_eq.mpr hn
theorem pop_last (e : h.get i = some (.lst (xs ++ [x]))) : mPopL (.ref i) [] h = some (x, h.put i (.lst xs)) := by
  show obL none (h.get i) (fun xs => popL i xs [] h) = _
  rw [e]
  show onO none (cnd (Nat.ble (Nat.succ 0) (lenN (xs ++ [x]))) (some (Nat.sub (lenN (xs ++ [x])) (Nat.succ 0))) none) (fun n => popAt i (xs ++ [x]) h n) = _
  have l : lenN (xs ++ [x]) = xs.length + 1 := by rw [lenN_eq, List.length_append]; rfl
  rw [l, Nat.ble_eq.mpr (by omega)]
  show popAt i (xs ++ [x]) h (xs.length + 1 - 1) = _
  rw [Nat.add_sub_cancel]
  show onO none (nth (xs ++ [x]) xs.length) (fun d => some (d, h.put i (.lst (app (takeN xs.length (xs ++ [x])) (dropN (Nat.succ xs.length) (xs ++ [x])))))) = _
  rw [nth_eq, List.getElem?_append_right (Nat.le_refl _), Nat.sub_self]
  show some (x, h.put i (.lst (app (takeN xs.length (xs ++ [x])) (dropN (Nat.succ xs.length) (xs ++ [x]))))) = _
  rw [app_eq, takeN_eq, dropN_eq, List.take_left', List.drop_eq_nil_of_le (by simp), List.append_nil]
  rfl
theorem append_ok (e : h.get i = some (.lst xs)) (hl : xs.length < 16777216) : mAppend (.ref i) [x] h = some (.non, h.put i (.lst (xs ++ [x]))) := by
  show obL none (h.get i) (fun xs => cnd (fits (Nat.succ (lenN xs))) (some (DV.non, h.put i (.lst (app xs [x])))) none) = _
  rw [e]
  show cnd (fits (Nat.succ (lenN xs))) (some (DV.non, h.put i (.lst (app xs [x])))) none = _
  rw [lenN_eq, fits_of hl, app_eq]; rfl
theorem extend_ok (e : h.get i = some (.lst xs)) (e2 : h.get j = some (.lst ys)) (hl : xs.length + ys.length ≤ 16777216) : mExtend (.ref i) [.ref j] h = some (.non, h.put i (.lst (xs ++ ys))) := by
  show obL none (h.get i) (fun xs => onO none (obL none (h.get j) some) fun ys => cnd (both xs ys) (some (DV.non, h.put i (.lst (app xs ys)))) none) = _
  rw [e, e2]
  show cnd (fits (Nat.add (lenN xs) (lenN ys))) (some (DV.non, h.put i (.lst (app xs ys)))) none = _
  rw [lenN_eq, lenN_eq, app_eq, fits_of (show Nat.add xs.length ys.length ≤ 16777216 from hl)]; rfl
theorem rev_ok (e : h.get i = some (.lst xs)) : revD (.ref i) h = some (.ref h.n, h.new (.lst xs.reverse)) := by
  show obL none (h.get i) (fun xs => newL (revO xs []) h) = _
  rw [e, ← List.append_nil xs.reverse, ← revO_eq]; rfl
theorem addT_ok (hl : xs.length + ys.length ≤ 16777216) : opAdd (.tup xs) (.tup ys) h = some (.tup (xs ++ ys), h) := by
  show cnd (fits (Nat.add (lenN xs) (lenN ys))) (some (DV.tup (app xs ys), h)) none = _
  rw [lenN_eq, lenN_eq, app_eq, fits_of (show Nat.add xs.length ys.length ≤ 16777216 from hl)]; rfl
theorem lenT_ok : bLen [.tup xs] h = some (.int (.ofNat xs.length), h) := by
  show some (DV.int (.ofNat (lenN xs)), h) = _
  rw [lenN_eq]
theorem snoc_of {α : Type} {xs : List α} (hx : xs ≠ []) : ∃ ys y, xs = ys ++ [y] := ⟨xs.dropLast, xs.getLast hx, (List.dropLast_concat_getLast hx).symm⟩
end
section
variable {a b : Ex} {fr : Fr} {h : DH} {P P1 : DV → DH → Prop}
theorem ea_rev (ha : Ea a fr h (fun x h1 => ∃ z h2, revD x h1 = some (z, h2) ∧ P z h2)) : Ea (cRev a) fr h P := fun kx k hk => ha kx _ fun x h1 ⟨z, h2, e, p⟩ => by
  show kh (revD x h1) k = true
  rw [e]; exact hk _ _ p
theorem ea_mL {f : Me} {es : Exs} (ha : Ea a fr h (fun x h1 => ∃ i xs, x = .ref i ∧ h1.get i = some (.lst xs) ∧ Eas es fr h1 (fun ds h2 => ∃ z h3, f (.ref i) ds h2 = some (z, h3) ∧ P z h3))) : Ea (cML f a es) fr h P := fun kx k hk => ha kx _ fun x h1 ⟨i, xs, e, g, p⟩ => by
  subst e
  show obL false (h1.get i) (fun _ => es fr h1 kx fun ds h => kh (f (.ref i) ds h) k) = true
  rw [g]
  refine p kx _ fun ds h2 ⟨z, h3, e, q⟩ => ?_
  rw [e]; exact hk _ _ q
theorem sa_if {t : Tx} {s r : Sx} {R : Fr → DH → Prop} {R1 : Bool → DH → Prop} (ht : Ta t fr h R1) (h1 : ∀ h', R1 true h' → Sa s fr h' R) (h2 : ∀ h', R1 false h' → Sa r fr h' R) : Sa (sIf t s r) fr h R := fun nx rt ex bk ct hk => ht _ _ fun b h' p => by
  cases b with
  | true => exact h1 h' p _ _ _ _ _ hk
  | false => exact h2 h' p _ _ _ _ _ hk
/-- what a term is known to give, once -/
theorem ea_v {d : DV} {h' : DH} (e : Ev a fr h d h') : Ea a fr h (fun x h1 => x = d ∧ h1 = h') := ea_ev e ⟨rfl, rfl⟩
theorem ta_cmp {neg : Bool} {f : DV → DV → DH → T3} {x y : DV} {h1 h2 : DH} {q : Bool} {R : Bool → DH → Prop} (ha : Ev a fr h x h1) (hb : Ev b fr h1 y h2) (hf : f x y h2 = ofB q) (p : R (cnd q (not neg) neg) h2) : Ta (cTest (cCmp neg f a b)) fr h R := fun kx k hk => by
  rw [tv_of (ev_cmp ha hb hf)]; exact hk _ _ p
end
/-! ### a word's split -/
section
variable {fns : Nat → FnD} {q : Nat}
noncomputable def bdSplit : Sx := (sRet (cLc [2] (cBin opAdd (cVar 1) (cTup (cCons (cVar 2) cNil))) (gNm 2) (iRng (cCons (cVar 0) cNil))))
/-- the words with one letter more -/
def splitW (s : Nat) (w : List Nat) : List (List Nat) := (List.range s).map fun c => w ++ [c]
theorem ca_split {js : Nat} {b : Call → Sx} (hj : fns js = .body 2 [] 1 b) (hb : b = fun _ => bdSplit) {s : Nat} {w : List Nat} {h : DH} (hs : s ≤ 1000) (hw : w.length ≤ 1000) :
    Ca (callK fns (q + 1)) js [.int (.ofNat s), wd w] h (fun d h' => d = .ref h.n ∧ h' = h.new (.lst ((splitW s w).map wd))) := by
  refine ca_body (bd := b) hj rfl fun kx k hk => ?_
  subst hb
  refine ret_ok (P := fun d h' => d = .ref h.n ∧ h' = h.new (.lst ((splitW s w).map wd))) (ea_lc (n := s) (h1 := h) (q := .rng 0 s) (Inv := fun i h' acc => h' = h ∧ acc.reverse = ((splitW i w).map wd)) ?_ (by omega) ⟨rfl, rfl⟩ (fun _ _ _ => rng_end) (fun h' acc ⟨e1, e2⟩ => ⟨by rw [e1], by rw [e1, e2]⟩) fun i hi h' acc ⟨e1, e2⟩ => ?_) hk
  · exact iv_rng1 (evs_cons (ev_var rfl) evs_nil) (by omega)
  · subst e1
    refine ⟨_, _, _, rng_0 hi, go_nm, ea_ev (ev_bin (ev_var rfl) (ev_tup (evs_cons (ev_var rfl) evs_nil)) (addT_ok (by simp; omega))) ⟨rfl, ?_⟩⟩
    rw [List.reverse_cons, e2]
    unfold splitW
    rw [List.range_succ, List.map_append, List.map_append]
    show _ ++ [_] = _ ++ [wd (w ++ [i])]
    unfold wd
    rw [List.map_append]; rfl
end
end Dz

set_option Elab.async false
set_option linter.all false
set_option maxRecDepth 100000
set_option maxHeartbeats 4000000
/-! Dz: repr of data: lists, tuples, ints, texts of plain signs, bools, None, {}. -/
namespace Dz
open PySem L2
/-- a text's signs -/
def cp (s : Str) : List Nat := s.cps.toList
theorem cp_app (a b : Str) : cp (a ++ b) = cp a ++ cp b := by
  show (a.cps ++ b.cps).toList = _
  rw [Array.toList_append]; rfl
theorem of_cp {s : Str} {t : List Nat} (h : cp s = t) : s = ⟨t.toArray⟩ := by
  subst h; show s = ⟨s.cps.toList.toArray⟩; rw [Array.toArray_toList]
theorem cp_str (s : String) : cp (s : Str) = s.toList.map Char.toNat := by
  show cp (Str.ofString s) = _
  rw [Str.ofString_eq_toList]; rfl
/-! ints -/
theorem dig_lt : ∀ d, d < 10 → (Nat.digitChar d).toNat = 48 + d := by decide
theorem digs_eq : ∀ (f n : Nat) (acc : List Nat), n < 10 ^ (f + 1) → digs (f + 1) n acc = (Nat.toDigits 10 n).map Char.toNat ++ acc
  | f, n, acc, h => by
    show cnd (Nat.ble n 9) (Nat.add 48 n :: acc) (digs f (Nat.div n 10) (Nat.add 48 (Nat.mod n 10) :: acc)) = _
    by_cases z : n < 10
    · rw [Nat.ble_eq.mpr (by omega), Nat.toDigits_of_lt_base z, List.map_cons, dig_lt n z]; rfl
    · have e : Nat.ble n 9 = false := by
        cases q : Nat.ble n 9 with
        | false => rfl
        | true => exact absurd (Nat.le_of_ble_eq_true q) (by omega)
      rw [e, Nat.toDigits_of_base_le (by decide) (by omega)]
      cases f with
      | zero => exact absurd h (by show ¬ n < 10 ^ 1; omega)
      | succ f =>
        show digs (f + 1) (n / 10) ((48 + n % 10) :: acc) = _
        rw [digs_eq f (n / 10) _ (by rw [Nat.pow_succ] at h; omega), List.map_append, List.map_cons, dig_lt _ (Nat.mod_lt _ (by decide)), List.append_assoc]; rfl
theorem pow_600 {n : Nat} (h : Nat.log2 n ≤ 1900) : n < 10 ^ (599 + 1) := by
  have h2 : n < 2 ^ 1901 := by
    by_cases z : n = 0
    · subst z; exact Nat.two_pow_pos _
    · exact (Nat.log2_lt z).mp (by omega)
  exact Nat.lt_trans h2 (by decide +kernel)
theorem int_text {i : Int} (h : Nat.log2 i.natAbs ≤ 1900) : cp (toString i : String) = intText i := by
  rw [cp_str]
  cases i with
  | ofNat n =>
    show (toString n : String).toList.map Char.toNat = digs 600 n []
    rw [show digs 600 n [] = digs (599 + 1) n [] from rfl, digs_eq 599 n [] (pow_600 h), List.append_nil]
    show (Nat.repr n).toList.map Char.toNat = _
    unfold Nat.repr
    rw [String.toList_ofList]
  | negSucc n =>
    show ("-" ++ toString (n + 1) : String).toList.map Char.toNat = 45 :: digs 600 (n + 1) []
    rw [show digs 600 (n + 1) [] = digs (599 + 1) (n + 1) [] from rfl, digs_eq 599 (n + 1) [] (pow_600 h), List.append_nil, String.toList_append, List.map_append]
    show _ ++ (Nat.repr (n + 1)).toList.map Char.toNat = _
    unfold Nat.repr
    rw [String.toList_ofList, String.toList_ofList]; rfl
/-! texts -/
theorem prn : ∀ c, c < 127 → 32 ≤ c → c ≠ 39 → c ≠ 92 → Builtin.Str.reprChar 39 c = [c] := by decide +kernel
theorem plain_of {c : Nat} (h : plainCp c = true) : c < 127 ∧ 32 ≤ c ∧ c ≠ 39 ∧ c ≠ 92 := by
  unfold plainCp at h
  obtain ⟨h1, h⟩ := cnd_and h
  obtain ⟨h2, h⟩ := cnd_and h
  have h1 := Nat.le_of_ble_eq_true h1
  have h2 := Nat.le_of_ble_eq_true h2
  rcases cnd_elim h with ⟨_, h⟩ | ⟨h3, h⟩
  · cases h
  · rcases cnd_elim h with ⟨_, h⟩ | ⟨h4, _⟩
    · cases h
    · exact ⟨by omega, h1, (fun e => by subst e; cases h3), (fun e => by subst e; cases h4)⟩
theorem fold_plain : ∀ (l : List Nat) (acc : Array Nat), (∀ c ∈ l, plainCp c = true) → l.foldl (fun out c => out ++ (Builtin.Str.reprChar 39 c).toArray) acc = acc ++ l.toArray
  | [], acc, _ => by simp
  | c :: r, acc, h => by
    obtain ⟨h1, h2, h3, h4⟩ := plain_of (h c List.mem_cons_self)
    rw [List.foldl_cons, prn c h1 h2 h3 h4, fold_plain r _ fun c hc => h c (List.mem_cons_of_mem _ hc)]
    apply Array.toList_inj.mp; simp
theorem str_text {x : List Nat} (h : allL plainCp x = true) : cp (reprText ⟨x.toArray⟩) = 39 :: app x [39] := by
  have hp : ∀ c ∈ x, plainCp c = true := by rw [allL_eq, List.all_eq_true] at h; exact h
  have hq : reprQuote ⟨x.toArray⟩ = 39 := by
    have e : x.toArray.contains 39 = false := by
      cases q : x.toArray.contains 39 with
      | false => rfl
      | true =>
        have hm : 39 ∈ x := by simpa using q
        exact absurd rfl (plain_of (hp 39 hm)).2.2.1
    unfold reprQuote
    rw [e]; rfl
  unfold reprText
  rw [hq]
  show (Array.push (Array.foldl _ #[39] x.toArray) 39).toList = _
  rw [← Array.foldl_toList, show x.toArray.toList = x from rfl, fold_plain x _ hp, app_eq]
  simp
/-! several -/
def joinL : List (List Nat) → List Nat
  | [] => []
  | [t] => t
  | t :: u :: r => t ++ (44 :: 32 :: joinL (u :: r))
theorem cp_join : ∀ ts : List Str, cp (Str.join ", " ts) = joinL (ts.map cp)
  | [] => rfl
  | [t] => rfl
  | t :: u :: r => by
    show cp (t ++ (", " : String) ++ Str.join ", " (u :: r)) = _
    rw [cp_app, cp_app, cp_join (u :: r), cp_str, List.append_assoc]; rfl
theorem cp_from : ∀ (ts : List Str) (k : Nat) (acc : Str), cp (textFrom (k + 1) acc ts) = cp acc ++ (match ts with | [] => [] | t :: r => 44 :: 32 :: joinL ((t :: r).map cp))
  | [], k, acc => by show cp acc = cp acc ++ []; rw [List.append_nil]
  | [t], k, acc => by
    show cp (acc ++ (", " : String) ++ t) = _
    rw [cp_app, cp_app, cp_str, List.append_assoc]; rfl
  | t :: u :: r, k, acc => by
    show cp (textFrom (k + 1 + 1) (acc ++ (", " : String) ++ t) (u :: r)) = _
    rw [cp_from (u :: r) (k + 1), cp_app, cp_app, cp_str, List.append_assoc, List.append_assoc]
    show _ = cp acc ++ (44 :: 32 :: (cp t ++ (44 :: 32 :: joinL ((u :: r).map cp))))
    rfl
theorem cp_list (ts : List Str) : cp (listText ts) = 91 :: joinL (ts.map cp) ++ [93] := by
  unfold listText
  rw [cp_app, cp_str]
  cases ts with
  | nil => rfl
  | cons t r =>
    show cp (textFrom 1 ("[" ++ ("" : String) ++ t) r) ++ [93] = _
    rw [cp_from r 0, cp_app, cp_app, cp_str, cp_str]
    cases r with
    | nil => simp [joinL]
    | cons u r => simp [joinL]
theorem cp_tup (ts : List Str) : cp (tupleText ts) = 40 :: joinL (ts.map cp) ++ (if ts.length = 1 then [44, 41] else [41]) := by
  unfold tupleText
  rw [cp_app, cp_app, cp_join, cp_str, cp_str]
  by_cases h : ts.length = 1
  · rw [if_pos h, h]; rfl
  · have e : (ts.length == 1) = false := by simpa using h
    rw [if_neg h, e]; rfl
theorem texts_of {tx : DV → OT} : ∀ {xs : List DV} {t : List Nat}, texts tx xs = some t → ∃ us, xs.map tx = us.map some ∧ t = joinL us
  | [], t, h => by cases h; exact ⟨[], rfl, rfl⟩
  | x :: r, t, h => by
    have h : onO none (tx x) (fun t => cnd (nilB r) (some t) (onO none (texts tx r) fun u => some (app t (44 :: 32 :: u)))) = some t := h
    cases e : tx x with
    | none => rw [e] at h; cases h
    | some a =>
      rw [e] at h
      have h : cnd (nilB r) (some a) (onO none (texts tx r) fun u => some (app a (44 :: 32 :: u))) = some t := h
      cases r with
      | nil => cases h; exact ⟨[_], by rw [List.map_cons, e]; rfl, rfl⟩
      | cons y r =>
        have h : onO none (texts tx (y :: r)) (fun u => some (app a (44 :: 32 :: u))) = some t := h
        cases e2 : texts tx (y :: r) with
        | none => rw [e2] at h; cases h
        | some b =>
          rw [e2] at h; cases h
          obtain ⟨us, k1, k2⟩ := texts_of e2
          refine ⟨a :: us, by rw [List.map_cons, e, k1]; rfl, ?_⟩
          rw [app_eq, k2]
          cases us with
          | nil => simp at k1
          | cons u us => rfl
/-! ### what is read off the heap -/
/-- the text of a value as it stands -/
def Txt (h : Heap) (n : Nat) (u : Value) (t : List Nat) : Prop := ∃ d as, Reads h u d as ∧ d.showable = true ∧ cp d.shown = t ∧ d.depth ≤ n ∧ d.hasDict = false
def TxtAll (h : Heap) (n : Nat) (us : List Value) (ts : List (List Nat)) : Prop := ∃ ds as, ReadsAll h us ds as ∧ PyData.showableAll ds = true ∧ (PyData.shownAll ds).map cp = ts ∧ PyData.depthAll ds ≤ n ∧ PyData.hasDictAll ds = false
theorem log_of {i : Int} {t : List Nat} (h : cnd (Nat.ble (Nat.log2 i.natAbs) 1900) (some (intText i)) none = some t) : Nat.log2 i.natAbs ≤ 1900 ∧ t = intText i := by
  cases q : Nat.ble (Nat.log2 i.natAbs) 1900 with
  | false => rw [q] at h; cases h
  | true => rw [q] at h; cases h; exact ⟨Nat.le_of_ble_eq_true q, rfl⟩
section
variable {C : Sc} {ρ : List Loc} {dh : DH} {fr : Fr} {σ : L2.St} {H : Hp} {pins : List (Addr × Obj)} {s : Shared}
theorem txts {n : Nat} (ih : ∀ x t v u, textD dh n x = some t → RelD C.G ρ H x v → RelV v u → Txt s.heap n u t) : ∀ (xs : List DV) (ts : List (List Nat)) (vs : List V) (us : List Value), xs.map (textD dh n) = ts.map some → RelDs C.G ρ H xs vs → Vals vs us → TxtAll s.heap n us ts
  | [], [], vs, us, _, r, q => by
    rw [rels_nil.mp r] at q
    cases q
    exact ⟨[], [], .nil, rfl, rfl, Nat.zero_le _, rfl⟩
  | [], t :: ts, vs, us, h, r, q => by simp at h
  | x :: xs, [], vs, us, h, r, q => by simp at h
  | x :: xs, t :: ts, vs, us, h, r, q => by
    obtain ⟨v, vs', rfl, r1, r2⟩ := rels_cons.mp r
    simp only [List.map_cons, List.cons.injEq] at h
    cases q with
    | cons q1 q2 =>
      obtain ⟨d, as, a1, a2, a3, a4, a5⟩ := ih x t v _ h.1 r1 q1
      obtain ⟨ds, bs, b1, b2, b3, b4, b5⟩ := txts ih xs ts vs' _ h.2 r2 q2
      exact ⟨d :: ds, as ++ bs, .cons a1 b1, by simp [PyData.showableAll, a2, b2], by simp [PyData.shownAll, a3, b3], (by show max d.depth (PyData.depthAll ds) ≤ n; exact Nat.max_le.mpr ⟨a4, b4⟩), by show (PyData.hasDict d || PyData.hasDictAll ds) = false; rw [a5, b5]; rfl⟩
theorem txt_of {X : Cx} {σ' : L2.St} (I : Inv X pins σ' H s) (st : C.St ρ dh fr σ H) : ∀ (n : Nat) (x : DV) (t : List Nat) (v : V) (u : Value), textD dh n x = some t → RelD C.G ρ H x v → RelV v u → Txt s.heap n u t
  | 0, x, t, v, u, h, _, _ => by cases h
  | n + 1, x, t, v, u, h, r, q => by
    have h : textStep dh (textD dh n) x = some t := h
    cases x with
    | non => cases h; rw [rel_non] at r; subst r; cases q; exact ⟨.none, [], .none, rfl, rfl, Nat.zero_le _, rfl⟩
    | bl b => rw [rel_bl] at r; subst r; cases q; cases h; exact ⟨.bool b, [], .bool b, rfl, by cases b <;> rfl, Nat.zero_le _, rfl⟩
    | int i =>
      obtain ⟨hl, e⟩ := log_of h
      rw [rel_int] at r; subst r
      obtain ⟨tk, rfl⟩ := q
      exact ⟨.int i, [], .int i tk, decide_eq_true (by omega), by rw [e]; exact int_text hl, Nat.zero_le _, rfl⟩
    | str y =>
      have h : cnd (allL plainCp y) (some (39 :: app y [39])) none = some t := h
      rw [rel_str] at r; subst r
      obtain ⟨tk, rfl⟩ := q
      cases e : allL plainCp y with
      | false => rw [e] at h; cases h
      | true => rw [e] at h; cases h; exact ⟨.str _, [], .str _ tk, rfl, str_text e, Nat.zero_le _, rfl⟩
    | tup xs =>
      have h : onO none (texts (textD dh n) xs) (fun t => some (40 :: app t (List.casesOn xs [41] fun _ r => cnd (nilB r) [44, 41] [41]))) = some t := h
      cases e : texts (textD dh n) xs with
      | none => rw [e] at h; cases h
      | some b =>
        rw [e] at h; cases h
        obtain ⟨us, k1, k2⟩ := texts_of e
        obtain ⟨a, vs, rfl, hs, rr⟩ := rel_tup.mp r
        cases q
        obtain ⟨its, rv, ⟨o, ho, hc, m, hd⟩, _⟩ := I.tuple (SqT.of hs)
        obtain ⟨ds, as, b1, b2, b3, b4, b5⟩ := txts (txt_of I st n) xs us vs its k1 rr rv
        have hl : (PyData.shownAll ds).length = xs.length := by
          have l1 := congrArg List.length b3
          have l2 := congrArg List.length k1
          simp at l1 l2; omega
        refine ⟨.tuple ds, as, .tuple ho hc hd b1, b2, ?_, by simp [PyData.depth]; omega, b5⟩
        show cp (tupleText (PyData.shownAll ds)) = _
        rw [cp_tup, b3, hl, app_eq, k2]
        match xs with
        | [] => rfl
        | [x] => rfl
        | x :: y :: r => rfl
    | ref i =>
      have h : obL none (dh.get i) (fun xs => onO none (texts (textD dh n) xs) fun t => some (91 :: app t [93])) = some t := h
      cases g : dh.get i with
      | none => rw [g] at h; cases h
      | some ob =>
        rw [g] at h
        cases ob with
        | lst xs =>
          have h : onO none (texts (textD dh n) xs) (fun t => some (91 :: app t [93])) = some t := h
          cases e : texts (textD dh n) xs with
          | none => rw [e] at h; cases h
          | some b =>
            rw [e] at h; cases h
            obtain ⟨us, k1, k2⟩ := texts_of e
            obtain ⟨a, vs, rfl, _, hs, rr⟩ := st_lst st r g
            cases q
            obtain ⟨its, rv, ⟨o, m, ho, hc, _, hd⟩, _⟩ := I.list (SqL.of hs)
            obtain ⟨ds, as, b1, b2, b3, b4, b5⟩ := txts (txt_of I st n) xs us vs its k1 rr rv
            refine ⟨.list ds, a :: as, .list ho hc hd b1, b2, ?_, by simp [PyData.depth]; omega, b5⟩
            show cp (listText (PyData.shownAll ds)) = _
            rw [cp_list, b3, app_eq, k2]; rfl
        | _ => cases h
    | _ => cases h
end
/-! ### repr -/
section
variable {X : Cx}
/-- what repr gives: a text that the value has in every state -/
def rRepr (X : Cx) : List V → Hp → VK → Prop := fun xs H Q => ∃ (v : V) (t : List Nat), xs = [v] ∧ t.length ≤ sizeLine ∧ (∀ (pins : List (Addr × Obj)) (σ : L2.St) (s : Shared) (u : Value), Inv X pins σ H s → RelV v u →
    ∃ d as, Reads s.heap u d as ∧ d.showable = true ∧ cp d.shown = t ∧ d.depth ≤ 41 ∧ (d.hasDict = true → sysModules ∉ as)) ∧ Q (.str ⟨t.toArray⟩) H
theorem call_repr (hu : X.A.units + 200 < cLine) (hg : X.A.guards = some []) : CallR X (.builtin "repr") (rRepr X) := by
  intro pins s σ H xs us Q I r h
  obtain ⟨v, t, rfl, hz, ht, q⟩ := h
  cases r with
  | cons r1 r2 =>
    cases r2
    rename_i u
    obtain ⟨d, as, hr, hs, hc, hd, hm⟩ := ht pins σ s u I r1
    have ed : d.shown = ⟨t.toArray⟩ := of_cp hc
    have hz' : d.shown.length ≤ sizeLine := by rw [ed]; show t.toArray.size ≤ _; simpa using hz
    have fin : ∀ (x : Str) (tk : Tok) (s' : Shared), x = ⟨t.toArray⟩ → Inv X pins σ H s' → ∃ (w : V) (H' : Hp), Inv X pins σ H' s' ∧ RelV w (.str x tk) ∧ Q w H' := fun x tk s' e I' => ⟨.str ⟨t.toArray⟩, H, I', ⟨tk, by rw [e]⟩, q⟩
    cases hr with
    | none => exact PySem.P.repr_of_none (fin _ _ _ ed (I.tok _))
    | bool b => exact PySem.P.repr_of_bool (fin _ _ _ ed (I.tok _))
    | int i tk => exact PySem.P.repr_of_int (of_decide_eq_true hs) (fin _ _ _ ed (I.tok _))
    | str x tk => exact PySem.P.repr_of_str (fin _ _ _ ed (I.tok _)) hz'
    | list a1 a2 a3 a4 => exact repr_of_reads' (.list a1 a2 a3 a4) hs hm hg (by omega) (fun _ _ e => e) (fun h' u' tk hk => fin _ _ _ ed (I.kept hk)) hz'
    | tuple a1 a2 a3 a4 => exact repr_of_reads' (.tuple a1 a2 a3 a4) hs hm hg (by omega) (fun _ _ e => e) (fun h' u' tk hk => fin _ _ _ ed (I.kept hk)) hz'
    | dict a1 a2 a3 a4 a5 => exact repr_of_reads' (.dict a1 a2 a3 a4 a5) hs hm hg (by omega) (fun _ _ e => e) (fun h' u' tk hk => fin _ _ _ ed (I.kept hk)) hz'
theorem textV_of {C : Sc} {ρ : List Loc} {dh : DH} {fr : Fr} {σ : L2.St} {H : Hp} {x : DV} {v : V} {t : List Nat} (st : C.St ρ dh fr σ H) (r : RelD C.G ρ H x v) (e : textV dh x = some t) {X : Cx} {pins : List (Addr × Obj)} {σ' : L2.St} {s : Shared} {u : Value} (I : Inv X pins σ' H s) (ru : RelV v u) :
    ∃ d as, Reads s.heap u d as ∧ d.showable = true ∧ cp d.shown = t ∧ d.depth ≤ 41 ∧ (d.hasDict = true → sysModules ∉ as) := by
  have plain : textD dh eqF x = some t → ∃ d as, Reads s.heap u d as ∧ d.showable = true ∧ cp d.shown = t ∧ d.depth ≤ 41 ∧ (d.hasDict = true → sysModules ∉ as) := fun e => by
    obtain ⟨d, as, a1, a2, a3, a4, a5⟩ := txt_of I st eqF x t v u e r ru
    exact ⟨d, as, a1, a2, a3, Nat.le_succ_of_le a4, fun z => by rw [a5] at z; cases z⟩
  cases x with
  | ref i =>
    have e : obD (textD dh eqF (.ref i)) (dh.get i) (fun kvs => cnd (nilB kvs) (some [123, 125]) none) = some t := e
    cases g : dh.get i with
    | none => rw [g] at e; exact plain e
    | some ob =>
      rw [g] at e
      cases ob with
      | dic kvs =>
        have e : cnd (nilB kvs) (some [123, 125]) none = some t := e
        cases kvs with
        | cons p q => cases e
        | nil =>
          cases e
          obtain ⟨a, rfl, _, hd⟩ := st_dic st r g
          cases ru
          rcases hd with ⟨ks, n0, _, e1, _⟩ | ⟨ks, e1, e2, _⟩
          · cases ks with
            | nil => exact absurd rfl n0
            | cons _ _ => simp at e1
          · have : ks = [] := by
              cases ks with
              | nil => rfl
              | cons _ _ => simp at e2
            subst this
            obtain ⟨_, hsys, xs, hp, o, es, ep, ho, hx, hd, hl, _⟩ := I.hok a _ e1
            have : xs = [] := by cases hp; rfl
            subst this
            refine ⟨.dict [], a :: [] ++ [], .dict (kvs := []) ho hx.1 hd (by rw [hl]; exact .nil) (by rw [hl]; exact .nil), rfl, rfl, by decide, fun _ z => ?_⟩
            have : a = sysModules := by
              have z : sysModules ∈ [a] := z
              exact (List.mem_singleton.mp z).symm
            rw [this] at hsys
            simp at hsys
      | _ => exact plain e
  | _ => exact plain e
theorem ok_repr (hu : X.A.units + 200 < cLine) (hg : X.A.guards = some []) : BcOk X (.builtin "repr") bRepr := by
  refine ⟨_, call_repr hu hg, fun C ρ dh fr σ H ds vs k Q hX st rr ko h => ?_⟩
  subst hX
  obtain ⟨x, rfl, h⟩ := on1_h h
  obtain ⟨v, rfl, r⟩ := rels1 rr
  obtain ⟨t, e, h⟩ := onO_h h
  obtain ⟨f, h⟩ := cnd_h h
  refine ⟨v, t, rfl, ?_, fun pins σ' s u I ru => textV_of st r e I ru, ko.now st (rel_str.mpr rfl) h⟩
  have := fits_le f
  rw [lenN_eq] at this
  exact this
end
end Dz

set_option Elab.async false
set_option linter.all false
set_option maxRecDepth 100000
set_option maxHeartbeats 4000000
/-! Dz: the end of a law that uses repr or lambdas: the law's own call, guards empty, tables there. -/
namespace Dz
open PySem PySem.Spec PyProof.Rows L2
section
variable {P : Program} {w : World} {K : PySem.W.Frag} {mg mb : Str → Option Value} {k j : Nat} {G : Gv} {call : Call} {fa a : Addr} {cs : List (Addr × Addr)} {fd : FuncData} {x : Str} {s : Shared} {vs : List Value} {ns : List Int}
/-- what is tracked when the law is called: the tables, the script -/
noncomputable def topH (K : PySem.W.Frag) (cs : List (Addr × Addr)) (a : Addr) (vs : List Value) (ns : List Int) : Hp := fun b =>
  open Classical in
  if ∃ p ∈ cs, p.2 = b then some (.tbl #[]) else if b = a ∧ K.lookup a = none then some (.frz { cls := .type "list", data := .seq vs.toArray } (.lst (ns.map V.int))) else none
theorem topH_tab {p : Addr × Addr} (h : p ∈ cs) : topH K cs a vs ns p.2 = some (.tbl #[]) := if_pos ⟨p, h, rfl⟩
theorem topH_of {b : Addr} {u : HO} (h : topH K cs a vs ns b = some u) : (∃ p ∈ cs, p.2 = b ∧ u = .tbl #[]) ∨ (b = a ∧ K.lookup a = none ∧ u = .frz { cls := .type "list", data := .seq vs.toArray } (.lst (ns.map V.int))) := by
  unfold topH at h
  split at h
  · rename_i q
    obtain ⟨p, hp, e⟩ := q
    cases h
    exact .inl ⟨p, hp, e, rfl⟩
  · split at h
    · rename_i q
      cases h
      exact .inr ⟨q.1, q.2, rfl⟩
    · cases h
theorem law_run (KX : K.In s.heap) (hns : s.heap.Ns mainGlobals mg) (hb : s.heap.Ns builtinsNs mb) (hbb : ∀ x : Str, x ≠ "__name__" → mb x = bootBuiltins x) (hlim : s.heap.NoLimit) (hg : s.gens = #[])
    (hT : ∀ p ∈ cs, s.heap.get? p.2 = some { cls := .none, data := .fields #[] }) (nT : ∀ p ∈ cs, K.lookup p.2 = none) (hC : ∀ p ∈ cs, PySem.W.CodeHd s.heap p.1 p.2)
    (hbm : ∃ (bm : Addr) (ob : Obj), mg "__builtins__" = some (.ref bm) ∧ bm ≠ builtinsNs ∧ s.heap.get? bm = some ob ∧ ob.cls = .type "module" ∧ ob.dict = some builtinsNs ∧ ob.data = .plain)
    (ha : s.heap.get? a = some { cls := .type "list", data := .seq vs.toArray }) (hi : IntsAre vs ns) (hl : ns.length ≤ 63) (hr : Room k callerA) (hK : G.K = K) (hGT : ∀ p ∈ G.T, ∃ q ∈ cs, q.2 = p.1)
    (F : ∀ base : Heap, K.In base → base.Ns mainGlobals mg → (∀ p ∈ cs, LamX.TabB base mg p.1 p.2) → FD P w K mg base k G call j fa fd [x]) (hbind : ∀ (s : Shared) (u : Value), BindsTo s fd ⟨[u], []⟩ [(x, u)])
    (h : ∀ n, n < 64 → call j [.cl (.own n)] ⟨0, .e⟩ noX isT = true) :
    codeAny (model P w) callerA (.call (.ref fa) ⟨[.ref a], []⟩) (fun r s' => r = .ok (.ret (.bool true)) ∧ OldK s.heap s'.heap ∧ s'.os = s.os ∧ AllBare s'.gens) s := by
  have rv := vals_ints hi
  have lenV := hi.length
  have sz : ns.length ≤ sizeLine := Nat.le_trans hl (by decide)
  obtain ⟨H, eH⟩ : ∃ H, H = topH K cs a vs ns := ⟨_, rfl⟩
  have tab : ∀ p ∈ cs, H p.2 = some (.tbl #[]) := fun p hp => by rw [eH]; exact topH_tab hp
  have of_ : ∀ {b u}, H b = some u → (∃ p ∈ cs, p.2 = b ∧ u = .tbl #[]) ∨ (b = a ∧ K.lookup a = none ∧ u = .frz { cls := .type "list", data := .seq vs.toArray } (.lst (ns.map V.int))) := fun {b u} e => by rw [eH] at e; exact topH_of e
  -- a tracked place holds a table or a list
  have holds : ∀ b u, H b = some u → s.heap.get? b = some { cls := .none, data := .fields #[] } ∨ s.heap.get? b = some { cls := .type "list", data := .seq vs.toArray } := fun b u e => by
    rcases of_ e with ⟨p, hp, e1, _⟩ | ⟨e1, _, _⟩
    · exact .inl (by rw [← e1]; exact hT p hp)
    · exact .inr (by rw [e1]; exact ha)
  have free : ∀ {b : Addr} {o : Obj}, s.heap.get? b = some o → (∀ ws n, o.data ≠ .seq ws n) → o.data ≠ .fields #[] → H b = none := fun {b o} e h1 h2 => by
    cases q : H b with
    | none => rfl
    | some u =>
      rcases holds b u q with z | z
      · rw [e] at z; cases z; exact absurd rfl h2
      · rw [e] at z; cases z; exact absurd rfl (h1 _ _)
  have toB : ∀ {b : Addr} {o : Obj}, s.heap.get? b = some o → H b = none → (hidT s.heap H).get? b = some o := fun e n => hidT_get e n
  have frD : ∀ {b : Addr} {o : Obj} {es : Array DictEntry} {ep : Nat}, s.heap.get? b = some o → o.data = .dict es ep → H b = none := fun {b o es ep} e d => free e (fun _ _ z => by rw [d] at z; cases z) fun z => by rw [d] at z; cases z
  have nsB : ∀ {b : Addr} {m : Str → Option Value}, s.heap.Ns b m → (hidT s.heap H).Ns b m := fun {b m} ⟨o, es, ep, e, d, r⟩ => ⟨o, es, ep, toB e (frD e d), d, r⟩
  have inB : K.In (hidT s.heap H) := fun b o e => toB (KX b o e) (by
    cases q : H b with
    | none => rfl
    | some u =>
      rcases of_ q with ⟨p, hp, e1, _⟩ | ⟨e1, e2, _⟩
      · rw [← e1, nT p hp] at e; cases e
      · rw [e1, e2] at e; cases e)
  have md : L2.Mod K mg (hidT s.heap H) := ⟨inB, nsB hns, ⟨mb, nsB hb, hbb⟩, let ⟨mc, h1, h2⟩ := hlim; ⟨mc, nsB h1, h2⟩⟩
  have tb : ∀ p ∈ cs, LamX.TabB (hidT s.heap H) mg p.1 p.2 := fun p hp => by
    have tp := hT p hp
    refine ⟨?_, ?_, fun z => ?_⟩
    · obtain ⟨o, us, file, tf, flags, tg, inF, text, tt, e1, r1, r2, r3, r4⟩ := hC p hp
      refine ⟨o, us, file, tf, flags, tg, inF, text, tt, toB e1 (free e1 (fun _ _ z => ?_) fun z => ?_), r1, r2, r3, r4⟩
      · rw [r2] at z; cases z
      · rw [r2] at z; cases z; simp at r3
    · obtain ⟨bm, ob, b1, b2, b3, b4, b5, b6⟩ := hbm
      refine ⟨bm, ob, b1, b2, fun q => ?_, fun q => ?_, toB b3 (free b3 (fun _ _ z => by rw [b6] at z; cases z) fun z => by rw [b6] at z; cases z), b4, b5, b6⟩
      · obtain ⟨o, es, ep, e, d, _⟩ := hns
        rw [q, e] at b3; cases b3
        rw [d] at b6; cases b6
      · rw [q, tp] at b3; cases b3; cases b6
    · obtain ⟨o, es, ep, e, d, _⟩ := hns
      rw [z, tp] at e; cases e; cases d
  have hok : HOk P w H s.heap := fun b u e => by
    rcases of_ e with ⟨p, hp, e1, e2⟩ | ⟨e1, e2, e3⟩
    · subst e2; rw [← e1]; exact hT p hp
    · subst e3; rw [e1]; exact ⟨ha, by rw [List.length_map]; exact sz, vs, _, rv, ha⟩
  have e0 : Env0 P w K mg (hidT s.heap H) callerA [] s H := ⟨rfl, md, fun b o e => of_hidT e, Nat.le_of_eq (hidT_size _ _), trivial, fun b hb => absurd (show b ∈ ([] : List Addr) from hb) (by simp), hok, .of_eq hg⟩
  have scr : RelScr G (.own ns.length) H (.ref a) := by
    refine ⟨a, ns, rfl, ⟨rfl, hl⟩, ?_⟩
    cases q : K.lookup a with
    | some o =>
      have e := KX a o q
      rw [ha] at e; cases e
      refine .inr ?_
      rw [hK]
      exact .inr ⟨_, vs.toArray, _, q, rfl, rfl, rfl, by rw [List.size_toArray, lenV]; exact sz, by simpa using rv⟩
    | none =>
      refine .inl ⟨{ cls := .type "list", data := .seq vs.toArray }, ?_⟩
      rw [eH]
      refine (if_neg fun ⟨p, hp, z⟩ => ?_).trans (if_pos ⟨rfl, q⟩)
      have y := hT p hp
      rw [z, ha] at y
      have y' : Data.seq vs.toArray _ = Data.fields #[] := congrArg Obj.data (Option.some.inj y)
      cases y'
  have er : EntR G s.heap (frs []) [] H ⟨0, .e⟩ := ⟨rfl, fun i j l e1 => by simp at e1, fun i l e => by simp at e, fun p hp => by
    obtain ⟨q, hq, e⟩ := hGT p hp
    refine NdefX.TabN.nil ?_
    rw [← e]; exact tab q hq⟩
  refine codeAny_mono ((F _ inB (nsB hns) tb).run callerA [] s H ⟨[.ref a], []⟩ [.ref a] [.ref a] (fun v _ => v = .bl true) (fun _ _ _ => False) [] ⟨0, .e⟩ [.cl (.own ns.length)] noX isT hr (fun _ => rfl) e0 (hbind s (.ref a)) (.cons rfl .nil) er (rels_cons.mpr ⟨_, [], rfl, rel_cl.mpr scr, rels_nil.mpr rfl⟩) ?_ no_exc (h _ (by omega))) fun r s' q => ?_
  · intro ρ' dh' H' d v o rv qq
    obtain ⟨t, rfl, qq⟩ := onB_of qq
    have qq : t = true := qq
    subst qq
    rw [rel_bl] at rv; subst rv
    rfl
  · cases r with
    | error e =>
      obtain ⟨_, _, _, _, _, q⟩ := q
      exact absurd q.2.2.2.2.2.2.2 id
    | ok fl =>
      cases fl with
      | next => exact False.elim q
      | brk => exact False.elim q
      | cont => exact False.elim q
      | ret u =>
        obtain ⟨v, H', os, bare, un, hok', r', q⟩ := q
        have q' : v = .bl true := q
        subst q'
        obtain rfl : u = Value.bool true := r'
        have grown : ∀ p ∈ cs, ∃ more : Array Value, s'.heap.get? p.2 = some { cls := .none, data := .fields more } := fun p hp => by
          obtain ⟨more, z⟩ := un.tbls p.2 #[] (tab p hp)
          exact ⟨_, hok' p.2 _ z⟩
        have stays : ∀ b o, s.heap.get? b = some o → (∃ p ∈ cs, p.2 = b) ∨ s'.heap.get? b = some o := fun b o e => by
          cases q : H b with
          | none => exact .inr (un.keep b o e q (by intro z; exact absurd (show b ∈ ([] : List Addr) from z) (by simp)) (by simp))
          | some u =>
            rcases of_ q with ⟨p, hp, e1, _⟩ | ⟨e1, e2, e3⟩
            · exact .inl ⟨p, hp, e1⟩
            · subst e3
              obtain ⟨k1, _⟩ := hok b _ q
              obtain ⟨k2, _⟩ := hok' b _ (un.frzs b _ _ q)
              rw [e] at k1; cases k1
              exact .inr k2
        refine ⟨rfl, ⟨fun b o e => ?_, fun b o e => ?_⟩, os, bare⟩
        · rcases stays b o e with ⟨p, hp, ep⟩ | z
          · obtain ⟨more, hm⟩ := grown p hp
            rw [← ep] at e ⊢
            rw [hT p hp] at e; cases e
            exact .inr (.inl ⟨((hC p hp).tab (hT p hp)).isCodeTable, rfl, #[], more, rfl, by rw [Array.empty_append]; exact hm⟩)
          · exact .inl z
        · rcases stays b o e with ⟨p, hp, ep⟩ | z
          · obtain ⟨more, hm⟩ := grown p hp
            rw [← ep]; exact ⟨_, hm⟩
          · exact ⟨o, z⟩
end
/-- what a law with tables, with empty guards is known by -/
def gvOfX (K : PySem.W.Frag) (w : World) (T : List NdefX.NTab) : Gv := ⟨K, 0, fun _ => 0, fun _ => 0, fun _ => [], fun _ => none, T, true, w⟩
/-- the end: the law keeps its promise over each base -/
theorem walk_ofX {l : PySem.W.OpenLaw} {k : Nat} {q : Program} {loose : List Str} {XP : (Str → Option Value) → Heap → Prop} {YP : World → Heap → Prop} {d : DefRec} {x : Str}
    (hn : l.most = some 63) (hdf : d.params.defaults = []) (hr : Room k callerA)
    (F : ∀ (w : World) (mg : Str → Option Value) (fa : Addr) (h : Heap), YP w h → h.Ns mainGlobals mg → mg d.name = some (.ref fa) →
      ∃ (K : PySem.W.Frag) (fd : FuncData) (cs : List (Addr × Addr)) (G : Gv) (call : Call) (j : Nat), K.In h ∧ (∀ p ∈ cs, h.get? p.2 = some { cls := .none, data := .fields #[] }) ∧ (∀ p ∈ cs, K.lookup p.2 = none) ∧ (∀ p ∈ cs, PySem.W.CodeHd h p.1 p.2) ∧
        (∀ (s : Shared) (u : Value), BindsTo s fd ⟨[u], []⟩ [(x, u)]) ∧ G.K = K ∧ (∀ p ∈ G.T, ∃ q ∈ cs, q.2 = p.1) ∧ (∀ n, n < 64 → call j [.cl (.own n)] ⟨0, .e⟩ noX isT = true) ∧
        ∀ base : Heap, K.In base → base.Ns mainGlobals mg → (∀ p ∈ cs, LamX.TabB base mg p.1 p.2) → FD l.prog w K mg base k G call j fa fd [x]) :
    PySem.W.WalkO q loose XP YP l.row.toRowW d [] (fun f vs => PySem.call f vs) := by
  refine Att.attach_callB hn hdf fun w s₀ s₁ mg mb fa o pm cd doc a vs ns G Y ho hd hcd hmg hobj hints hlen hbits hg => ?_
  obtain ⟨K, fd, cs, Gv, call, j, KX, hT, nT, hC, hb, hK, hGT, h, hF⟩ := F w mg fa _ Y G.T.g hmg
  exact law_run KX G.T.g G.T.b G.T.builtins G.T.nolimit hg hT nT hC G.T.bmain hobj hints hlen hr hK hGT hF hb h
end Dz

set_option Elab.async false
set_option linter.all false
set_option maxRecDepth 100000
set_option maxHeartbeats 4000000
/-! Dz: bodies that may return early, by what holds behind them; bools, slices, comparisons of words. -/
namespace Dz
open PySem L2
section
variable {a b c : Ex} {es : Exs} {fr : Fr} {h h1 h2 h3 : DH} {P P1 P2 : DV → DH → Prop} {Q : List DV → DH → Prop} {R R1 : Fr → DH → Prop} {d x y z : DV} {ds as : List DV} {call : Call} {j : Nat} {pm : List PArg} {g : Gx} {s r : Sx} {t u : Tx} {it : Ix}
theorem eas_v (e : Ev a fr h d h1) (hs : Eas es fr h1 (fun ds h2 => Q (d :: ds) h2)) : Eas (cCons a es) fr h Q := fun kx k hk => by
  show a fr h kx _ = true
  rw [e]; exact hs kx _ fun ds h2 q => hk _ _ q
theorem ea_cv (hs : Evs es fr h ds h1) (hp : pick pm ds = some as) (c : Ca call j as h1 P) : Ea (cCall call j pm es) fr h P := ea_call fun kx k hk => by
  rw [hs]; exact hk _ _ ⟨as, hp, c⟩
theorem eas_ev (e : Evs es fr h ds h1) (q : Q ds h1) : Eas es fr h Q := fun kx k hk => by rw [e]; exact hk _ _ q
/-- a statement that goes on, or returns -/
def Sb (s : Sx) (fr : Fr) (h : DH) (R : Fr → DH → Prop) (P : DV → DH → Prop) : Prop := ∀ (nx : KN) (rt : KV) (ex : KE) (bk ct : KN), (∀ f h', R f h' → nx f h' = true) → (∀ d h', P d h' → rt d h' = true) → s fr h nx rt ex bk ct = true
theorem sb_sa (e : Sa s fr h R) : Sb s fr h R P := fun nx rt ex bk ct hn _ => e _ _ _ _ _ hn
theorem sb_sv {fr2 : Fr} (e : Sv s fr h fr2 h1) (p : R fr2 h1) : Sb s fr h R P := sb_sa (sa_sv e p)
theorem sb_ret (e : Ea a fr h P) : Sb (sRet a) fr h R P := fun nx rt ex bk ct _ hr => e _ _ hr
theorem sb_seq (h1 : Sb s fr h R1 P) (h2 : ∀ f h', R1 f h' → Sb r f h' R P) : Sb (sSeq s r) fr h R P := fun nx rt ex bk ct hn hr => h1 _ _ _ _ _ (fun f h' p => h2 f h' p _ _ _ _ _ hn hr) hr
theorem sb_sv2 {fr2 : Fr} (e : Sv s fr h fr2 h1) (h2 : Sb r fr2 h1 R P) : Sb (sSeq s r) fr h R P := fun nx rt ex bk ct hn hr => by
  show s fr h _ rt ex bk ct = true
  rw [e]; exact h2 _ _ _ _ _ hn hr
theorem sb_asg (ha : Ea a fr h P1) (hg : ∀ d h1, P1 d h1 → ∃ fr' h', Go g d fr h1 fr' h' ∧ Sb r fr' h' R P) : Sb (sSeq (sAsg g a) r) fr h R P :=
  sb_seq (R1 := fun fr' h' => Sb r fr' h' R P) (sb_sa (sa_asg ha fun d h1 p => hg d h1 p)) fun f h' p => p
/-- a plain name takes the value -/
theorem sb_nm {i : Nat} (ha : Ea a fr h P1) (hg : ∀ d h1, P1 d h1 → Sb r (setAt fr i (some d)) h1 R P) : Sb (sSeq (sAsg (gNm i) a) r) fr h R P := sb_asg ha fun d h1 p => ⟨_, _, go_nm, hg d h1 p⟩
theorem sb_ex (ha : Ea a fr h P1) (hg : ∀ d h1, P1 d h1 → Sb r fr h1 R P) : Sb (sSeq (sExpr a) r) fr h R P :=
  sb_seq (R1 := fun fr' h' => Sb r fr' h' R P) (sb_sa (sa_expr ha fun d h1 p => hg d h1 p)) fun f h' p => p
theorem sb_if {R1 : Bool → DH → Prop} (ht : Ta t fr h R1) (h1 : ∀ h', R1 true h' → Sb s fr h' R P) (h2 : ∀ h', R1 false h' → Sb r fr h' R P) : Sb (sIf t s r) fr h R P := fun nx rt ex bk ct hn hr => ht _ _ fun b h' p => by
  cases b with
  | true => exact h1 h' p _ _ _ _ _ hn hr
  | false => exact h2 h' p _ _ _ _ _ hn hr
theorem sb_nil (p : R fr h) : Sb sNil fr h R P := fun nx rt ex bk ct hn _ => hn _ _ p
/-- a test that is never so, then the rest -/
theorem sb_iff {R1 : DH → Prop} (ht : Ta t fr h (fun b h' => b = false ∧ R1 h')) (hs : ∀ h', R1 h' → Sb r fr h' R P) : Sb (sSeq (sIf t s sNil) r) fr h R P :=
  sb_seq (R1 := fun fr' h' => Sb r fr' h' R P) (sb_if ht (fun h' ⟨e, _⟩ => by cases e) fun h' ⟨_, p⟩ => sb_nil (hs h' p)) fun f h' p => p
theorem forB_go {q : It} {n : Nat} {Inv : Nat → Fr → DH → Prop} {nx : KN} {rt : KV} {ex : KE} (hend : ∀ fr h, Inv n fr h → q.nxt n h = some none) (hk : ∀ fr h, Inv n fr h → nx fr h = true) (hr : ∀ d h, P d h → rt d h = true)
    (hs : ∀ i, i < n → ∀ fr h, Inv i fr h → ∃ x fr1 h1, q.nxt i h = some (some x) ∧ Go g x fr h fr1 h1 ∧ Sb s fr1 h1 (Inv (i + 1)) P) :
    ∀ (m i fuel : Nat) (fr : Fr) (h : DH), i + m = n → m < fuel → Inv i fr h → forLoop g q s nx rt ex fuel i fr h = true
  | m, i, 0, fr, h, e, hf, iv => absurd hf (Nat.not_lt_zero _)
  | 0, i, f + 1, fr, h, e, hf, iv => by
    have : i = n := by omega
    subst this
    show turn (q.nxt i h) (nx fr h) _ = true
    rw [hend fr h iv]; exact hk fr h iv
  | m + 1, i, f + 1, fr, h, e, hf, iv => by
    obtain ⟨x, fr1, h1, e1, e2, e3⟩ := hs i (by omega) fr h iv
    show turn (q.nxt i h) (nx fr h) (fun x => g x fr h fun fr h => s fr h (forLoop g q s nx rt ex f (Nat.succ i)) rt ex nx (forLoop g q s nx rt ex f (Nat.succ i))) = true
    rw [e1]
    show g x fr h (fun fr h => s fr h (forLoop g q s nx rt ex f (Nat.succ i)) rt ex nx (forLoop g q s nx rt ex f (Nat.succ i))) = true
    rw [e2]
    exact e3 _ _ _ _ _ (fun fr' h' p => forB_go hend hk hr hs m (i + 1) f fr' h' (by omega) (by omega) p) hr
/-- what is walked comes by any draws -/
def Ia (t : Ix) (fr : Fr) (h : DH) (J : It → DH → Prop) : Prop := ∀ (kx : KX) (k : KI), (∀ q h', J q h' → k q h' = true) → t fr h kx k = true
theorem ia_iv {q : It} {J : It → DH → Prop} (e : Iv it fr h q h1) (p : J q h1) : Ia it fr h J := fun kx k hk => by rw [e]; exact hk _ _ p
theorem ia_rng {J : It → DH → Prop} (ha : Ea a fr h (fun d h' => ∃ n : Nat, d = .int (.ofNat n) ∧ n < 4611686018427387904 ∧ J (.rng 0 n) h')) : Ia (iRng (cCons a cNil)) fr h J := fun kx k hk => ha kx _ fun d h' ⟨n, e, hn, p⟩ => by
  subst e
  show cnd (small62 (.ofNat n)) (k (.rng 0 n) h') false = true
  rw [small_nat hn]; exact hk _ _ p
theorem sb_for {n : Nat} {q : It} {Inv : Nat → Fr → DH → Prop} (hi : Iv it fr h q h1) (hn : n < 100000) (h0 : Inv 0 fr h1) (hend : ∀ fr h, Inv n fr h → q.nxt n h = some none)
    (hs : ∀ i, i < n → ∀ fr h, Inv i fr h → ∃ x fr1 h1, q.nxt i h = some (some x) ∧ Go g x fr h fr1 h1 ∧ Sb s fr1 h1 (Inv (i + 1)) P) (hk : ∀ fr h, Inv n fr h → R fr h) : Sb (sFor g it s) fr h R P := fun nx rt ex bk ct hnx hr => by
  show it fr h (kxOf ex fr) (fun j h => forLoop g j s nx rt ex lcF 0 fr h) = true
  rw [hi]
  exact forB_go hend (fun fr h iv => hnx _ _ (hk fr h iv)) hr hs n 0 lcF fr h1 (Nat.zero_add _) hn h0
/-- a loop over what is drawn -/
theorem sb_forA {J : It → DH → Prop} (hi : Ia it fr h J) (hb : ∀ q h1, J q h1 → ∃ (n : Nat) (Inv : Nat → Fr → DH → Prop), n < 100000 ∧ Inv 0 fr h1 ∧ (∀ fr h, Inv n fr h → q.nxt n h = some none) ∧
    (∀ i, i < n → ∀ fr h, Inv i fr h → ∃ x fr1 h1, q.nxt i h = some (some x) ∧ Go g x fr h fr1 h1 ∧ Sb s fr1 h1 (Inv (i + 1)) P) ∧ ∀ fr h, Inv n fr h → R fr h) : Sb (sFor g it s) fr h R P := fun nx rt ex bk ct hnx hr => hi _ _ fun q h1 p => by
  obtain ⟨n, Inv, hn, h0, hend, hs, hk⟩ := hb q h1 p
  exact forB_go hend (fun fr h iv => hnx _ _ (hk fr h iv)) hr hs n 0 lcF fr h1 (Nat.zero_add _) hn h0
/-- a comprehension over what is drawn -/
theorem ea_lcA {drop : List Nat} {J : It → DH → Prop} (hi : Ia it fr h J) (hb : ∀ q h1, J q h1 → ∃ (n : Nat) (Inv : Nat → DH → List DV → Prop), n < 100000 ∧ Inv 0 h1 [] ∧ (∀ h acc, Inv n h acc → q.nxt n h = some none) ∧
    (∀ i, i < n → ∀ h acc, Inv i h acc → ∃ x fr1 h1, q.nxt i h = some (some x) ∧ Go g x (bDrop drop fr) h fr1 h1 ∧ Ea a fr1 h1 (fun d h2 => Inv (i + 1) h2 (d :: acc))) ∧ ∀ h acc, Inv n h acc → P (.ref h.n) (h.new (.lst acc.reverse))) : Ea (cLc drop a g it) fr h P := fun kx k hk' => hi _ _ fun q h1 p => by
  obtain ⟨n, Inv, hn, h0, hend, hs, hk⟩ := hb q h1 p
  refine lcA_go hend (fun h acc iv => ?_) hs n 0 lcF h1 [] (Nat.zero_add _) hn h0
  show k (.ref h.n) (h.new (.lst (revO acc []))) = true
  rw [revO_eq, List.append_nil]
  exact hk' _ _ (hk h acc iv)
theorem ca_sb {fns : Nat → FnD} {q np more : Nat} {bd : Call → Sx} (hj : fns j = .body np [] more bd) (hl : lenN as = np) (hb : Sb (bd (callK fns q)) (plainFr more as) h (fun _ h' => P .non h') P) : Ca (callK fns (q + 1)) j as h P := fun kx k hk => by
  rw [call_run hj hl]; exact hb _ _ _ _ _ (fun _ h' p => hk _ _ p) hk
/-! ### bools -/
theorem ev_andt (ha : Ev a fr h (.bl true) h1) (hb : Ev b fr h1 d h2) : Ev (cAnd a b) fr h d h2 := fun kx k => by
  show a fr h kx (fun x h => onB false x fun c => cnd c (b fr h kx k) (k (.bl false) h)) = _
  rw [ha]; exact hb kx k
theorem ev_andf (ha : Ev a fr h (.bl false) h1) : Ev (cAnd a b) fr h (.bl false) h1 := fun kx k => by
  show a fr h kx (fun x h => onB false x fun c => cnd c (b fr h kx k) (k (.bl false) h)) = _
  rw [ha]; rfl
theorem ev_ort (ha : Ev a fr h (.bl true) h1) : Ev (cOr a b) fr h (.bl true) h1 := fun kx k => by
  show a fr h kx (fun x h => onB false x fun c => cnd c (k (.bl true) h) (b fr h kx k)) = _
  rw [ha]; rfl
theorem ev_orf (ha : Ev a fr h (.bl false) h1) (hb : Ev b fr h1 d h2) : Ev (cOr a b) fr h d h2 := fun kx k => by
  show a fr h kx (fun x h => onB false x fun c => cnd c (k (.bl true) h) (b fr h kx k)) = _
  rw [ha]; exact hb kx k
theorem ev_not {q : Bool} (ha : Ev a fr h (.bl q) h1) : Ev (cNot a) fr h (.bl (!q)) h1 := fun kx k => by
  show a fr h kx (fun x h => onB false x fun c => k (.bl (cnd c false true)) h) = _
  rw [ha]; cases q <;> rfl
theorem ea_and (ha : Ea a fr h P1) (hb : ∀ x h1, P1 x h1 → (x = .bl false ∧ P (.bl false) h1) ∨ (x = .bl true ∧ Ea b fr h1 P)) : Ea (cAnd a b) fr h P := fun kx k hk => ha kx _ fun x h1 p => by
  rcases hb x h1 p with ⟨rfl, q⟩ | ⟨rfl, q⟩
  · exact hk _ _ q
  · exact q kx k hk
theorem ea_or (ha : Ea a fr h P1) (hb : ∀ x h1, P1 x h1 → (x = .bl true ∧ P (.bl true) h1) ∨ (x = .bl false ∧ Ea b fr h1 P)) : Ea (cOr a b) fr h P := fun kx k hk => ha kx _ fun x h1 p => by
  rcases hb x h1 p with ⟨rfl, q⟩ | ⟨rfl, q⟩
  · exact hk _ _ q
  · exact q kx k hk
theorem ea_not (ha : Ea a fr h (fun x h1 => ∃ q : Bool, x = .bl q ∧ P (.bl (!q)) h1)) : Ea (cNot a) fr h P := fun kx k hk => ha kx _ fun x h1 ⟨q, e, p⟩ => by
  subst e
  show k (.bl (cnd q false true)) h1 = true
  cases q <;> exact hk _ _ p
theorem ta_not {R : Bool → DH → Prop} (ht : Ta t fr h (fun q h' => R (!q) h')) : Ta (tNot t) fr h R := fun kx k hk => ht kx _ fun q h' p => by
  show k (cnd q false true) h' = true
  cases q <;> exact hk _ _ p
theorem ta_b {R : Bool → DH → Prop} {q : Bool} (e : Ev a fr h (.bl q) h1) (p : R q h1) : Ta (cTest a) fr h R := fun kx k hk => by rw [tv_of e]; exact hk _ _ p
theorem ta_imp {R R2 : Bool → DH → Prop} (ht : Ta t fr h R) (i : ∀ q h', R q h' → R2 q h') : Ta t fr h R2 := fun kx k hk => ht kx k fun q h' p => hk q h' (i q h' p)
theorem ev_isin {sub : Ty → Bool} {T : Ty} (ha : Ev a fr h x h1) (ht : tyOf x h1 = some T) : Ev (cIsin sub a) fr h (.bl (sub T)) h1 := fun kx k => by
  show a fr h kx (fun x h => onO false (tyOf x h) fun t => k (.bl (sub t)) h) = _
  rw [ha]
  show onO false (tyOf x h1) (fun t => k (.bl (sub t)) h1) = _
  rw [ht]; rfl
theorem ev_chain {f1 f2 : DV → DV → DH → T3} {p q : Bool} (ha : Ev a fr h x h1) (hb : Ev b fr h1 y h2) (hf : f1 x y h2 = ofB p) (hc : Ev c fr h2 z h2) (hg : f2 y z h2 = ofB q) : Ev (cChain false false f1 f2 a b c) fr h (.bl (p && q)) h2 := fun kx k => by
  show a fr h kx (fun x h => b fr h kx fun y h => ko (t3 false (f1 x y h)) h fun t h => onB false t fun t => cnd t (c fr h kx fun z h => ko (t3 false (f2 y z h)) h k) (k (.bl false) h)) = _
  rw [ha]
  show b fr h1 kx (fun y h => ko (t3 false (f1 x y h)) h fun t h => onB false t fun t => cnd t (c fr h kx fun z h => ko (t3 false (f2 y z h)) h k) (k (.bl false) h)) = _
  rw [hb]
  show ko (t3 false (f1 x y h2)) h2 (fun t h => onB false t fun t => cnd t (c fr h kx fun z h => ko (t3 false (f2 y z h)) h k) (k (.bl false) h)) = _
  rw [hf]
  cases p with
  | false => rfl
  | true =>
    show c fr h2 kx (fun z h => ko (t3 false (f2 y z h)) h k) = _
    rw [hc]
    show ko (t3 false (f2 y z h2)) h2 k = _
    rw [hg]
    cases q <;> rfl
/-! ### slices, comparisons of words -/
theorem ev_slT {xs : List DV} {n : Nat} (ha : Ev a fr h (.tup xs) h1) (hb : Ev b fr h1 (.int (.ofNat n)) h2) : Ev (cSl a oNo (oEx b)) fr h (.tup (xs.take n)) h2 := fun kx k => by
  show a fr h kx (fun x h => b fr h kx fun d h => onI false d fun i => kh (slice x none (some i) h) k) = _
  rw [ha]
  show b fr h1 kx (fun d h => onI false d fun i => kh (slice (.tup xs) none (some i) h) k) = _
  rw [hb]
  show k (.tup (takeN (Nat.sub (cnd (Nat.ble n (lenN xs)) n (lenN xs)) 0) (dropN 0 xs))) h2 = _
  rw [takeN_eq, lenN_eq]
  have e : xs.take (Nat.sub (cnd (Nat.ble n xs.length) n xs.length) 0) = xs.take n := by
    by_cases hn : n ≤ xs.length
    · rw [Nat.ble_eq.mpr hn]; rfl
    · have : Nat.ble n xs.length = false := by
        cases e : Nat.ble n xs.length with
        | false => rfl
        | true => exact absurd (Nat.le_of_ble_eq_true e) hn
      rw [this]
      show xs.take xs.length = _
      rw [List.take_of_length_le (Nat.le_refl _), List.take_of_length_le (by omega)]
  have e2 : dropN 0 xs = xs := by cases xs <;> rfl
  rw [e2, e]
theorem wd_take (w : List Nat) (n : Nat) : DV.tup ((w.map fun c => DV.int (.ofNat c)).take n) = wd (w.take n) := by
  unfold wd; rw [List.map_take]
theorem eqs_w (eq : DV → DV → T3) (he : ∀ m n : Nat, eq (.int (.ofNat m)) (.int (.ofNat n)) = ofB (decide (m = n))) : ∀ u v : List Nat, eqs eq (u.map fun c => DV.int (.ofNat c)) (v.map fun c => DV.int (.ofNat c)) = ofB (decide (u = v))
  | [], [] => rfl
  | [], _ :: _ => rfl
  | _ :: _, [] => rfl
  | m :: u, n :: v => by
    show on3 (eq (.int (.ofNat m)) (.int (.ofNat n))) .no (eqs eq (u.map fun c => DV.int (.ofNat c)) (v.map fun c => DV.int (.ofNat c))) .un = _
    rw [he, eqs_w eq he u v]
    by_cases e : m = n
    · subst e
      rw [decide_eq_true (rfl : m = m)]
      show ofB (decide (u = v)) = _
      congr 1
      rw [decide_eq_decide]
      exact ⟨fun z => by rw [z], fun z => (List.cons.inj z).2⟩
    · rw [decide_eq_false e, decide_eq_false (fun z => e (List.cons.inj z).1)]; rfl
theorem eqD_int (h : DH) (n : Nat) (m k : Nat) : eqD h (n + 1) (.int (.ofNat m)) (.int (.ofNat k)) = ofB (decide (m = k)) := by
  show ofB (intEq (.ofNat m) (.ofNat k)) = _
  congr 1
  show Nat.beq m k = _
  by_cases e : m = k
  · subst e; rw [Nat.beq_refl, decide_eq_true rfl]
  · rw [beq_f e, decide_eq_false e]
theorem eqW (u v : List Nat) (h : DH) : eqC (wd u) (wd v) h = ofB (decide (u = v)) := by
  show cnd (cnd (isData h eqF (wd u)) (isData h eqF (wd v)) false) (eqD h eqF (wd u) (wd v)) .un = _
  rw [data_wd h 38 u, data_wd h 38 v]
  show eqs (eqD h 39) _ _ = _
  exact eqs_w _ (eqD_int h 38) u v
theorem ixT {xs : List DV} {n : Nat} (e : xs[n]? = some d) : getIx (.tup xs) (.int (.ofNat n)) h = some d := by
  show ixIn xs (.ofNat n) = _
  show onO none (cnd (Nat.ble (Nat.succ n) (lenN xs)) (some n) none) (fun n => nth xs n) = _
  have hn := lt_of_get e
  rw [lenN_eq, Nat.ble_eq.mpr hn]
  show nth xs n = _
  rw [nth_eq, e]
theorem ixL {i n : Nat} {xs : List DV} (hg : h.get i = some (.lst xs)) (e : xs[n]? = some d) : getIx (.ref i) (.int (.ofNat n)) h = some d := by
  rw [get_l hg]; exact ixT (h := h) e
theorem wd_get {w : List Nat} {n : Nat} (hn : n < w.length) : (w.map fun c => DV.int (.ofNat c))[n]? = some (.int (.ofNat w[n])) := by
  rw [List.getElem?_map, List.getElem?_eq_getElem hn]; rfl
/-- all of a list of True -/
theorem all_true {i : Nat} {xs : List DV} (hg : h.get i = some (.lst xs)) (e : ∀ x ∈ xs, x = .bl true) : bAll [.ref i] h = some (.bl true, h) := by
  show onO none (obL none (h.get i) some) (fun xs => boolD (boolAll xs) h) = _
  rw [hg]
  show boolD (boolAll xs) h = _
  have : ∀ xs : List DV, (∀ x ∈ xs, x = DV.bl true) → boolAll xs = some true := fun xs => by
    induction xs with
    | nil => intro _; rfl
    | cons x r ih =>
      intro q
      have e1 : x = .bl true := q x (List.mem_cons_self ..)
      subst e1
      have := ih fun y hy => q y (List.mem_cons_of_mem _ hy)
      show onB none (.bl true) (fun b => onO none (boolAll r) fun c => some (cnd b c false)) = _
      rw [this]; rfl
  rw [this xs e]; rfl
end
/-! ### operators on numbers -/
section
variable {h : DH} {a b : Nat} {p q : Nat}
theorem op_mulN (ha : a < 2 ^ p) (hb : b < 2 ^ q) (hp : 0 < p) (hq : 0 < q) (hs : p + q ≤ 1000000) : opMul (.int (.ofNat a)) (.int (.ofNat b)) h = some (.int (.ofNat (a * b)), h) := op_mulI (a := .ofNat a) (n := .ofNat b) ha hb hp hq hs
theorem op_addN : opAdd (.int (.ofNat a)) (.int (.ofNat b)) h = some (.int (.ofNat (a + b)), h) := rfl
theorem op_subN (hb : b ≤ a) : opInt subI (.int (.ofNat a)) (.int (.ofNat b)) = some (.int (.ofNat (a - b))) := by
  rw [op_subI]
  have : (Int.ofNat a - Int.ofNat b) = Int.ofNat (a - b) := (Int.ofNat_sub hb).symm
  rw [this]
theorem op_fdivN (hb : 0 < b) (h2 : b < 2 ^ 9000) : opInt fdivI (.int (.ofNat a)) (.int (.ofNat b)) = some (.int (.ofNat (a / b))) := op_fdivI (a := .ofNat a) (n := .ofNat b) (by show (0 : Int) < (b : Int); omega) h2
theorem p20 {n : Nat} (h : n ≤ 1000000) : n < 2 ^ 20 := Nat.lt_of_le_of_lt h (by decide)
theorem p9000 {n : Nat} (h : n ≤ 1000000) : n < 2 ^ 9000 := Nat.lt_of_lt_of_le (p20 h) (Nat.pow_le_pow_right (by decide) (by decide))
theorem rng0 {i n : Nat} (hi : i < n) : (It.rng 0 n).nxt i h = some (some (.int (.ofNat i))) := by
  rw [rng_at hi]
  have : Int.add 0 (Int.ofNat i) = Int.ofNat i := Int.zero_add _
  rw [this]
theorem rng2 {i n : Nat} (hi : i < n) : (It.rng (.ofNat 2) n).nxt i h = some (some (.int (.ofNat (2 + i)))) := by
  rw [rng_at hi]; rfl
end
section
variable {elt a : Ex} {g : Gx} {c : Tx} {it : Ix} {fr : Fr} {h h1 : DH} {P : DV → DH → Prop}
/-- a comprehension with a test -/
theorem lcC_go {q : It} {n : Nat} {fr0 : Fr} {Inv : Nat → DH → List DV → Prop} {k : List DV → DH → Bool} (hend : ∀ h acc, Inv n h acc → q.nxt n h = some none) (hk : ∀ h acc, Inv n h acc → k acc h = true)
    (hs : ∀ i, i < n → ∀ h acc, Inv i h acc → ∃ x fr1 h1, q.nxt i h = some (some x) ∧ Go g x fr0 h fr1 h1 ∧ Ta c fr1 h1 (fun b h2 => (b = true ∧ Ea elt fr1 h2 (fun d h3 => Inv (i + 1) h3 (d :: acc))) ∨ (b = false ∧ Inv (i + 1) h2 acc))) :
    ∀ (m i fuel : Nat) (h : DH) (acc : List DV), i + m = n → m < fuel → Inv i h acc → lcLoopC elt g q c fr0 k fuel i h acc = true
  | m, i, 0, h, acc, e, hf, iv => absurd hf (Nat.not_lt_zero _)
  | 0, i, f + 1, h, acc, e, hf, iv => by
    have : i = n := by omega
    subst this
    show turn (q.nxt i h) (k acc h) _ = true
    rw [hend h acc iv]; exact hk h acc iv
  | m + 1, i, f + 1, h, acc, e, hf, iv => by
    obtain ⟨x, fr1, h1, e1, e2, e3⟩ := hs i (by omega) h acc iv
    show turn (q.nxt i h) (k acc h) (fun x => g x fr0 h fun fr h => c fr h noK fun b h => cnd b (elt fr h noK fun d h => lcLoopC elt g q c fr0 k f (Nat.succ i) h (d :: acc)) (lcLoopC elt g q c fr0 k f (Nat.succ i) h acc)) = true
    rw [e1]
    show g x fr0 h (fun fr h => c fr h noK fun b h => cnd b (elt fr h noK fun d h => lcLoopC elt g q c fr0 k f (Nat.succ i) h (d :: acc)) (lcLoopC elt g q c fr0 k f (Nat.succ i) h acc)) = true
    rw [e2]
    refine e3 _ _ fun b h2 p => ?_
    rcases p with ⟨rfl, p⟩ | ⟨rfl, p⟩
    · exact p _ _ fun d h3 p => lcC_go hend hk hs m (i + 1) f h3 (d :: acc) (by omega) (by omega) p
    · exact lcC_go hend hk hs m (i + 1) f h2 acc (by omega) (by omega) p
theorem ea_lcC {drop : List Nat} {q : It} {n : Nat} {Inv : Nat → DH → List DV → Prop} (hi : Iv it fr h q h1) (hn : n < 100000) (h0 : Inv 0 h1 []) (hend : ∀ h acc, Inv n h acc → q.nxt n h = some none)
    (hs : ∀ i, i < n → ∀ h acc, Inv i h acc → ∃ x fr1 h1, q.nxt i h = some (some x) ∧ Go g x (bDrop drop fr) h fr1 h1 ∧ Ta c fr1 h1 (fun b h2 => (b = true ∧ Ea elt fr1 h2 (fun d h3 => Inv (i + 1) h3 (d :: acc))) ∨ (b = false ∧ Inv (i + 1) h2 acc)))
    (hk : ∀ h acc, Inv n h acc → P (.ref h.n) (h.new (.lst acc.reverse))) : Ea (cLcC drop elt g it c) fr h P := fun kx k hk' => by
  show it fr h kx (fun j h => lcLoopC elt g j c (bDrop drop fr) (lcEnd k) lcF 0 h []) = true
  rw [hi]
  refine lcC_go hend (fun h acc iv => ?_) hs n 0 lcF h1 [] (Nat.zero_add _) hn h0
  show k (.ref h.n) (h.new (.lst (revO acc []))) = true
  rw [revO_eq, List.append_nil]
  exact hk' _ _ (hk h acc iv)
end
/-! ### rows: lists and tuples -/
/-- a list that stands, or a tuple -/
def Sq (h : DH) (a : DV) (xs : List DV) : Prop := (∃ i, a = .ref i ∧ i < h.n ∧ h.get i = some (.lst xs)) ∨ a = .tup xs
section
variable {h h' : DH} {a d : DV} {xs : List DV} {n : Nat}
theorem Sq.ext (s : Sq h a xs) (x : Ext h h') : Sq h' a xs := by
  rcases s with ⟨i, rfl, hi, e⟩ | rfl
  · exact .inl ⟨i, rfl, Nat.lt_of_lt_of_le hi x.le, x.get hi e⟩
  · exact .inr rfl
theorem Sq.seq (s : Sq h a xs) : seqOf a h = some xs := by
  rcases s with ⟨i, rfl, hi, e⟩ | rfl
  · show obL none (h.get i) some = _
    rw [e]; rfl
  · rfl
theorem Sq.new (h : DH) (xs : List DV) : Sq (h.new (.lst xs)) (.ref h.n) xs := .inl ⟨h.n, rfl, Nat.lt_succ_self _, get_new_same _ _⟩
theorem Sq.len (s : Sq h a xs) : bLen [a] h = some (.int (.ofNat xs.length), h) := by
  rcases s with ⟨i, rfl, hi, e⟩ | rfl
  · exact len_l e
  · exact lenT_ok
theorem Sq.at (s : Sq h a xs) (e : xs[n]? = some d) : getIx a (.int (.ofNat n)) h = some d := by
  rcases s with ⟨i, rfl, hi, g⟩ | rfl
  · exact ixL g e
  · exact ixT e
theorem Sq.iv {ae : Ex} {fr : Fr} {h0 : DH} (s : Sq h a xs) (ha : Ev ae fr h0 a h) : Iv (iSeq ae) fr h0 (.sq a) h := fun kx k => by
  show ae fr h0 kx (fun x h => onO false (seqOf x h) fun _ => k (.sq x) h) = _
  rw [ha]
  show onO false (seqOf a h) (fun _ => k (.sq a) h) = _
  rw [s.seq]; rfl
theorem Sq.nxt (s : Sq h a xs) (e : xs[n]? = some d) : (It.sq a).nxt n h = some (some d) := by
  show onO none (seqOf a h) (fun xs => some (nth xs n)) = _
  rw [s.seq]
  show some (nth xs n) = _
  rw [nth_eq, e]
theorem Sq.nxtE (s : Sq h a xs) : (It.sq a).nxt xs.length h = some none := by
  show onO none (seqOf a h) (fun ys => some (nth ys xs.length)) = _
  rw [s.seq]
  show some (nth xs xs.length) = _
  rw [nth_eq, List.getElem?_eq_none (Nat.le_refl _)]
theorem Sq.ivE {es : Exs} {fr : Fr} {h0 : DH} (s : Sq h a xs) (ha : Evs es fr h0 [a] h) : Iv (iEnum es) fr h0 (.enm a) h := fun kx k => by
  show es fr h0 kx (fun ds h => arg1 false ds fun x => onO false (seqOf x h) fun _ => k (.enm x) h) = _
  rw [ha]
  show onO false (seqOf a h) (fun _ => k (.enm a) h) = _
  rw [s.seq]; rfl
theorem Sq.enm (s : Sq h a xs) (e : xs[n]? = some d) : (It.enm a).nxt n h = some (some (.tup [.int (.ofNat n), d])) := by
  show onO none (seqOf a h) (fun xs => some (onO none (nth xs n) fun x => some (DV.tup [.int (.ofNat n), x]))) = _
  rw [s.seq]
  show some (onO none (nth xs n) fun x => some (DV.tup [.int (.ofNat n), x])) = _
  rw [nth_eq, e]; rfl
theorem Sq.enmE (s : Sq h a xs) : (It.enm a).nxt xs.length h = some none := by
  show onO none (seqOf a h) (fun ys => some (onO none (nth ys xs.length) fun x => some (DV.tup [.int (.ofNat xs.length), x]))) = _
  rw [s.seq]
  show some (onO none (nth xs xs.length) fun x => some (DV.tup [.int (.ofNat xs.length), x])) = _
  rw [nth_eq, List.getElem?_eq_none (Nat.le_refl _)]; rfl
end
/-- a list of numbers against [] -/
theorem data_ints {h : DH} {i : Nat} {xs : List Nat} (e : h.get i = some (.lst (xs.map fun n => DV.int (.ofNat n)))) (n : Nat) : isData h (n + 2) (.ref i) = true := by
  rw [isData_s]
  show obL false (h.get i) (allL (isData h (n + 1))) = true
  rw [e]
  refine allL_of fun x hx => ?_
  obtain ⟨w, _, rfl⟩ := List.mem_map.mp hx
  rfl
theorem eq_nilI {h : DH} {i j : Nat} {xs : List Nat} (e : h.get i = some (.lst (xs.map fun n => DV.int (.ofNat n)))) (e2 : h.get j = some (.lst [])) : eqC (.ref i) (.ref j) h = ofB (decide (xs = [])) := by
  show cnd (cnd (isData h eqF (.ref i)) (isData h eqF (.ref j)) false) (eqD h eqF (.ref i) (.ref j)) .un = _
  rw [data_ints e 38, data_nil e2 39]
  show obL .un (h.get i) (fun a => obL .un (h.get j) fun b => eqs (eqD h 39) a b) = _
  rw [e, e2]
  cases xs with
  | nil => rfl
  | cons w r => rfl
end Dz

set_option Elab.async false
set_option linter.all false
set_option maxRecDepth 100000
set_option maxHeartbeats 4000000
/-! Words, by hand: what the program's (and the laws') functions on words answer, whatever is drawn. The bodies with the called defs' numbers as arguments (printed by bd.py). -/
namespace Dz
open PySem L2
/-! ### the bodies -/
noncomputable def w_is_integer (t_int t_bool : Ty → Bool) : Sx := (sRet (cAnd (cIsin t_int (cVar 0)) (cNot (cIsin t_bool (cVar 0)))))
noncomputable def w_is_count (call : Call) (j_is_integer : Nat) : Sx := (sRet (cAnd (cCall call j_is_integer [.at_ 0] (cCons (cVar 0) cNil)) (cCmp false geC (cVar 0) (cCst (.int (.ofNat 0))))))
noncomputable def w_is_list (t_any : Ty → Bool) : Sx := (sRet (cIsin t_any (cVar 0)))
noncomputable def w_want_many (call : Call) (j_is_count : Nat) : Sx := (sIf (tOr (tNot (cTest (cCall call j_is_count [.at_ 0] (cCons (cVar 0) cNil)))) (tNot (cTest (cChain false false leC leC (cVar 2) (cVar 0) (cVar 1))))) sNo sNil)
noncomputable def w_want_at_most : Sx := (sIf (cTest (cCmp false gtC (cVar 2) (cVar 1))) sNo sNil)
noncomputable def w_is_size_value (call : Call) (j_is_integer : Nat) : Sx := (sRet (cAnd (cCall call j_is_integer [.at_ 0] (cCons (cVar 0) cNil)) (cChain false false leC leC (cCst (.int (.ofNat 2))) (cVar 0) (cCst (.int (.ofNat 4))))))
noncomputable def w_want_size (call : Call) (j_is_size_value : Nat) : Sx := (sIf (tNot (cTest (cCall call j_is_size_value [.at_ 0] (cCons (cVar 0) cNil)))) sNo sNil)
noncomputable def w_is_word_value (t_tuple : Ty → Bool) (call : Call) (j_is_integer : Nat) : Sx := (sSeq (sIf (tOr (tNot (cTest (cIsin t_tuple (cVar 1)))) (cTest (cCmp false gtC (cBc bLen (cCons (cVar 1) cNil)) (cCst (.int (.ofNat 40)))))) (sRet (cCst (.bl false))) sNil) (sRet (cBc bAll (cCons (cLc [2] (cAnd (cCall call j_is_integer [.at_ 0] (cCons (cVar 2) cNil)) (cChain false false leC ltC (cCst (.int (.ofNat 0))) (cVar 2) (cVar 0))) (gNm 2) (iSeq (cVar 1))) cNil))))
noncomputable def w_want_word (call : Call) (j_is_word_value : Nat) : Sx := (sIf (tNot (cTest (cCall call j_is_word_value [.at_ 0, .at_ 1] (cCons (cVar 0) (cCons (cVar 1) cNil))))) sNo sNil)
noncomputable def w_are_words_value (call : Call) (j_is_list j_is_word_value : Nat) : Sx := (sRet (cAnd (cCall call j_is_list [.at_ 0] (cCons (cVar 1) cNil)) (cAnd (cCmp false leC (cBc bLen (cCons (cVar 1) cNil)) (cCst (.int (.ofNat 128)))) (cBc bAll (cCons (cLc [2] (cCall call j_is_word_value [.at_ 0, .at_ 1] (cCons (cVar 0) (cCons (cVar 2) cNil))) (gNm 2) (iSeq (cVar 1))) cNil)))))
noncomputable def w_want_words (call : Call) (j_are_words_value : Nat) : Sx := (sIf (tNot (cTest (cCall call j_are_words_value [.at_ 0, .at_ 1] (cCons (cVar 0) (cCons (cVar 1) cNil))))) sNo sNil)
noncomputable def w_begins : Sx := (sRet (cCmp false eqC (cSl (cVar 1) oNo (oEx (cBc bLen (cCons (cVar 0) cNil)))) (cVar 0)))
noncomputable def w_two_clash (call : Call) (j_begins : Nat) : Sx := (sRet (cOr (cCall call j_begins [.at_ 0, .at_ 1] (cCons (cVar 0) (cCons (cVar 1) cNil))) (cCall call j_begins [.at_ 0, .at_ 1] (cCons (cVar 1) (cCons (cVar 0) cNil)))))
noncomputable def w_common_of : Sx := (sSeq (sAsg (gNm 2) (cCst (.int (.ofNat 0)))) (sSeq (sWhile (tAnd (cTest (cCmp false ltC (cVar 2) (cBc bMin (cCons (cBc bLen (cCons (cVar 0) cNil)) (cCons (cBc bLen (cCons (cVar 1) cNil)) cNil))))) (cTest (cCmp false eqC (cIx (cVar 0) (cVar 2)) (cIx (cVar 1) (cVar 2))))) (sAsg (gNm 2) (cBin opAdd (cVar 2) (cCst (.int (.ofNat 1)))))) (sRet (cSl (cVar 0) oNo (oEx (cVar 2))))))
noncomputable def w_times : Sx := (sSeq (sAsg (gNm 2) (cCst (.int (.ofNat 1)))) (sSeq (sFor (gNm 3) (iRng (cCons (cVar 1) cNil)) (sAsg (gNm 2) (cBin opMul (cVar 2) (cVar 0)))) (sRet (cVar 2))))
noncomputable def w_first_clash (call : Call) (j_two_clash : Nat) : Sx := (sSeq (sFor (gTup 2 (gCons (gNm 1) (gCons (gNm 2) gNil))) (iEnum (cCons (cVar 0) cNil)) (sSeq (sAsg (gNm 3) (cLcC [4] (cVar 4) (gNm 4) (iRng (cCons (cBin opAdd (cVar 1) (cCst (.int (.ofNat 1)))) (cCons (cBc bLen (cCons (cVar 0) cNil)) cNil))) (cTest (cCall call j_two_clash [.at_ 0, .at_ 1] (cCons (cVar 2) (cCons (cIx (cVar 0) (cVar 4)) cNil)))))) (sIf (cTest (cCmp true eqC (cVar 3) (cLst cNil))) (sRet (cTup (cCons (cVar 1) (cCons (cIx (cVar 3) (cCst (.int (.ofNat 0)))) cNil)))) sNil))) (sRet (cCst .non)))
noncomputable def w_number_of : Sx := (sSeq (sAsg (gNm 2) (cCst (.int (.ofNat 0)))) (sSeq (sFor (gNm 3) (iSeq (cVar 1)) (sAsg (gNm 2) (cBin opAdd (cBin opMul (cVar 2) (cVar 0)) (cVar 3)))) (sRet (cVar 2))))
noncomputable def w_word_by : Sx := (sSeq (sPar2 3 4 (cCons (cTup cNil) (cCons (cVar 2) cNil))) (sSeq (sFor (gNm 5) (iRng (cCons (cVar 1) cNil)) (sSeq (sAsg (gNm 3) (cBin opAdd (cTup (cCons (cBin0 (opInt subI) (cVar 4) (cBin opMul (cVar 0) (cBin0 (opInt fdivI) (cVar 4) (cVar 0)))) cNil)) (cVar 3))) (sAsg (gNm 4) (cBin0 (opInt fdivI) (cVar 4) (cVar 0))))) (sRet (cVar 3))))
/-! ### words -/
def wok (s : Nat) (w : List Nat) : Prop := ∀ c ∈ w, c < s
theorem wok_app {s : Nat} {u v : List Nat} (hu : wok s u) (hv : wok s v) : wok s (u ++ v) := fun c hc => (List.mem_append.mp hc).elim (hu c) (hv c)
theorem wok_take {s : Nat} {u : List Nat} (hu : wok s u) (n : Nat) : wok s (u.take n) := fun c hc => hu c (List.mem_of_mem_take hc)
theorem wok_nil {s : Nat} : wok s [] := fun c hc => by simp at hc
section
variable {fns : Nat → FnD} {q j : Nat} {b : Call → Sx} {h : DH}
/-! ### what is passed -/
abbrev KInt (call : Call) (j : Nat) : Prop := ∀ (i : Int) (h : DH), Cv call j [.int i] h (.bl true) h
theorem k_int {ti tb : Ty → Bool} (hj : fns j = .body 1 [] 0 b) (hb : b = fun _ => w_is_integer ti tb) (h1 : ti .int = true) (h2 : tb .int = false) : KInt (callK fns (q + 1)) j := fun i h => by
  subst hb
  have e1 := ev_isin (sub := ti) (T := .int) (ev_var (i := 0) (fr := plainFr 0 [.int i]) (h := h) (d := .int i) rfl) rfl
  have e2 := ev_not (ev_isin (sub := tb) (T := .int) (ev_var (i := 0) (fr := plainFr 0 [.int i]) (h := h) (d := .int i) rfl) rfl)
  rw [h1] at e1
  rw [h2] at e2
  exact cv_body hj rfl (sr_ret (ev_andt e1 e2))
abbrev KCnt (call : Call) (j : Nat) : Prop := ∀ (n : Nat) (h : DH), Cv call j [.int (.ofNat n)] h (.bl true) h
theorem k_cnt {ji : Nat} (hj : fns j = .body 1 [] 0 b) (hb : b = fun call => w_is_count call ji) (hi : KInt (callK fns q) ji) : KCnt (callK fns (q + 1)) j := fun n h => by
  subst hb
  refine cv_body hj rfl (sr_ret (ev_andt (ev_call (evs_cons (ev_var rfl) evs_nil) rfl (hi _ h)) ?_))
  have e := ev_cmp (neg := false) (ev_var (i := 0) (fr := plainFr 0 [.int (.ofNat n)]) (h := h) (d := .int (.ofNat n)) rfl) (ev_cst (d := .int (.ofNat 0))) ge_I
  rw [decide_eq_true (by show (0 : Int) ≤ (n : Int); omega)] at e
  exact e
abbrev KLst (call : Call) (j : Nat) : Prop := (∀ (i : Nat) (xs : List DV) (h : DH), h.get i = some (.lst xs) → Cv call j [.ref i] h (.bl true) h) ∧ ∀ (xs : List DV) (h : DH), Cv call j [.tup xs] h (.bl true) h
theorem k_lst {ta : Ty → Bool} (hj : fns j = .body 1 [] 0 b) (hb : b = fun _ => w_is_list ta) (h1 : ta .list = true) (h2 : ta .tuple = true) : KLst (callK fns (q + 1)) j := by
  subst hb
  refine ⟨fun i xs h hg => cv_body hj rfl (sr_ret ?_), fun xs h => cv_body hj rfl (sr_ret ?_)⟩
  case' refine_2 =>
    have e := ev_isin (sub := ta) (T := .tuple) (ev_var (i := 0) (fr := plainFr 0 [.tup xs]) (h := h) (d := .tup xs) rfl) rfl
    rw [h2] at e
    exact e
  have e := ev_isin (sub := ta) (T := .list) (ev_var (i := 0) (fr := plainFr 0 [.ref i]) (h := h) (d := .ref i) rfl) (by
    show obL (obD none (h.get i) fun _ => some Ty.dict) (h.get i) (fun _ => some Ty.list) = _
    rw [hg]; rfl)
  rw [h1] at e
  exact e
abbrev KMany (call : Call) (j : Nat) : Prop := ∀ (n m l : Nat) (h : DH), l ≤ n → n ≤ m → Cv call j [.int (.ofNat n), .int (.ofNat m), .int (.ofNat l)] h .non h
theorem k_many {jc : Nat} (hj : fns j = .body 3 [] 0 b) (hb : b = fun call => w_want_many call jc) (hc : KCnt (callK fns q) jc) : KMany (callK fns (q + 1)) j := fun n m l h h1 h2 => by
  subst hb
  refine cv_fall hj rfl (sv_iff ?_ sv_nil)
  have e := ev_chain (ev_var (i := 2) (fr := plainFr 0 [.int (.ofNat n), .int (.ofNat m), .int (.ofNat l)]) (h := h) (d := .int (.ofNat l)) rfl) (ev_var (i := 0) (d := .int (.ofNat n)) rfl) (le_I (h := h)) (ev_var (i := 1) (d := .int (.ofNat m)) rfl) (le_I (h := h))
  rw [decide_eq_true (by show (l : Int) ≤ (n : Int); omega), decide_eq_true (by show (n : Int) ≤ (m : Int); omega)] at e
  have t1 := tv_of (ev_call (pm := [.at_ 0]) (evs_cons (ev_var (i := 0) (fr := plainFr 0 [.int (.ofNat n), .int (.ofNat m), .int (.ofNat l)]) (h := h) (d := .int (.ofNat n)) rfl) evs_nil) rfl (hc n h))
  have t2 := tv_of e
  intro kx k
  show (cTest _) _ h kx _ = _
  rw [t1]
  show (cTest (cChain false false leC leC (cVar 2) (cVar 0) (cVar 1))) (plainFr 0 [.int (.ofNat n), .int (.ofNat m), .int (.ofNat l)]) h kx (fun c h => k (cnd c false true) h) = _
  rw [t2]; rfl
abbrev KMost (call : Call) (j : Nat) : Prop := ∀ (x : DV) (n m : Nat) (h : DH), n ≤ m → Cv call j [x, .int (.ofNat m), .int (.ofNat n)] h .non h
theorem k_most (hj : fns j = .body 3 [] 0 b) (hb : b = fun _ => w_want_at_most) : KMost (callK fns (q + 1)) j := fun x n m h h1 => by
  subst hb
  refine cv_fall hj rfl (sv_iff ?_ sv_nil)
  have t := tv_of (ev_cmp (neg := false) (ev_var (i := 2) (fr := plainFr 0 [x, .int (.ofNat m), .int (.ofNat n)]) (h := h) (d := .int (.ofNat n)) rfl) (ev_var (i := 1) (d := .int (.ofNat m)) rfl) gt_I)
  rw [decide_eq_false (by show ¬ ((m : Int) < (n : Int)); omega)] at t
  exact t
abbrev KSz (call : Call) (j : Nat) : Prop := ∀ (s : Nat) (h : DH), 2 ≤ s → s ≤ 4 → Cv call j [.int (.ofNat s)] h (.bl true) h
theorem k_sz {ji : Nat} (hj : fns j = .body 1 [] 0 b) (hb : b = fun call => w_is_size_value call ji) (hi : KInt (callK fns q) ji) : KSz (callK fns (q + 1)) j := fun s h h1 h2 => by
  subst hb
  refine cv_body hj rfl (sr_ret (ev_andt (ev_call (evs_cons (ev_var rfl) evs_nil) rfl (hi _ h)) ?_))
  have e := ev_chain (ev_cst (d := .int (.ofNat 2)) (fr := plainFr 0 [.int (.ofNat s)]) (h := h)) (ev_var (i := 0) (d := .int (.ofNat s)) rfl) (le_I (h := h)) (ev_cst (d := .int (.ofNat 4))) (le_I (h := h))
  rw [decide_eq_true (by show (2 : Int) ≤ (s : Int); omega), decide_eq_true (by show (s : Int) ≤ (4 : Int); omega)] at e
  exact e
abbrev KWsz (call : Call) (j : Nat) : Prop := ∀ (s : Nat) (h : DH), 2 ≤ s → s ≤ 4 → Cv call j [.int (.ofNat s)] h .non h
theorem k_wsz {jz : Nat} (hj : fns j = .body 1 [] 0 b) (hb : b = fun call => w_want_size call jz) (hz : KSz (callK fns q) jz) : KWsz (callK fns (q + 1)) j := fun s h h1 h2 => by
  subst hb
  refine cv_fall hj rfl (sv_iff ?_ sv_nil)
  have t := tv_of (ev_call (pm := [.at_ 0]) (evs_cons (ev_var (i := 0) (fr := plainFr 0 [.int (.ofNat s)]) (h := h) (d := .int (.ofNat s)) rfl) evs_nil) rfl (hz s h h1 h2))
  intro kx k
  show (cTest _) _ h kx _ = _
  rw [t]; rfl
/-- any word is one: new things are made -/
abbrev KIsW (call : Call) (j : Nat) : Prop := ∀ (s : Nat) (w : List Nat) (h : DH), w.length ≤ 40 → wok s w → Ca call j [.int (.ofNat s), wd w] h (fun d h' => d = .bl true ∧ Ext h h')
theorem it_wd {w : List Nat} {i : Nat} (hi : i < w.length) : (It.sq (wd w)).nxt i h = some (some (.int (.ofNat w[i]))) := by
  show some (nth (w.map fun c => DV.int (.ofNat c)) i) = _
  rw [nth_eq, wd_get hi]
theorem it_wdE {w : List Nat} : (It.sq (wd w)).nxt w.length h = some none := by
  show some (nth (w.map fun c => DV.int (.ofNat c)) w.length) = _
  rw [nth_eq, List.getElem?_eq_none (by simp)]
theorem iv_sqT {a : Ex} {fr : Fr} {xs : List DV} {h1 : DH} (ha : Ev a fr h (.tup xs) h1) : Iv (iSeq a) fr h (.sq (.tup xs)) h1 := fun kx k => by
  show a fr h kx (fun x h => onO false (seqOf x h) fun _ => k (.sq x) h) = _
  rw [ha]; rfl
theorem iv_sqL {a : Ex} {fr : Fr} {xs : List DV} {i : Nat} {h1 : DH} (ha : Ev a fr h (.ref i) h1) (hg : h1.get i = some (.lst xs)) : Iv (iSeq a) fr h (.sq (.ref i)) h1 := fun kx k => by
  show a fr h kx (fun x h => onO false (seqOf x h) fun _ => k (.sq x) h) = _
  rw [ha]
  show onO false (obL none (h1.get i) some) (fun _ => k (.sq (.ref i)) h1) = _
  rw [hg]; rfl
theorem it_l {i n : Nat} {xs : List DV} {d : DV} (hg : h.get i = some (.lst xs)) (e : xs[n]? = some d) : (It.sq (.ref i)).nxt n h = some (some d) := by
  show onO none (obL none (h.get i) some) (fun xs => some (nth xs n)) = _
  rw [hg]
  show some (nth xs n) = _
  rw [nth_eq, e]
theorem it_lE {i n : Nat} {xs : List DV} (hg : h.get i = some (.lst xs)) (e : xs.length ≤ n) : (It.sq (.ref i)).nxt n h = some none := by
  show onO none (obL none (h.get i) some) (fun xs => some (nth xs n)) = _
  rw [hg]
  show some (nth xs n) = _
  rw [nth_eq, List.getElem?_eq_none e]
theorem k_isw {tt : Ty → Bool} {ji : Nat} (hj : fns j = .body 2 [] 1 b) (hb : b = fun call => w_is_word_value tt call ji) (ht : tt .tuple = true) (hi : KInt (callK fns q) ji) : KIsW (callK fns (q + 1)) j := fun s w h h1 hw => by
  subst hb
  refine ca_sb hj rfl (sb_iff (R1 := fun h' => h' = h) (ta_or (P1 := fun b h' => b = false ∧ h' = h) (ta_not (ta_b (ev_isin (T := .tuple) (ev_var rfl) rfl) ⟨by rw [ht]; rfl, rfl⟩)) (fun h' ⟨_, e⟩ => ?_) fun h' ⟨e, _⟩ => by cases e) fun h' e => ?_)
  · subst e
    refine ta_cmp (ev_bc (evs_cons (ev_var rfl) evs_nil) lenT_ok) ev_cst gt_I ⟨?_, rfl⟩
    rw [List.length_map, decide_eq_false (by show ¬ ((40 : Int) < (w.length : Int)); omega)]; rfl
  · subst e
    refine sb_ret (ea_bc (eas_cons (P := fun d h2 => ∃ i xs, d = .ref i ∧ h2.get i = some (.lst xs) ∧ (∀ x ∈ xs, x = .bl true) ∧ Ext h' h2) (ea_lc (n := w.length) (h1 := h') (q := .sq (wd w)) (Inv := fun i h2 acc => (∀ x ∈ acc, x = .bl true) ∧ Ext h' h2) (iv_sqT (ev_var rfl)) (by omega) ⟨by simp, Ext.refl _⟩ (fun _ _ _ => it_wdE) (fun h2 acc ⟨a1, a2⟩ => ⟨_, _, rfl, get_new_same _ _, fun x hx => a1 x (List.mem_reverse.mp hx), a2.trans (Ext.new _ _)⟩) fun i hi' h2 acc ⟨a1, a2⟩ => ?_) fun d h2 ⟨i, xs, e1, e2, e3, e4⟩ => ?_))
    · refine ⟨_, _, _, it_wd hi', go_nm, ea_ev (ev_andt (ev_call (evs_cons (ev_var rfl) evs_nil) rfl (hi _ h2)) (ev_chain ev_cst (ev_var rfl) (le_I (h := h2)) (ev_var rfl) (lt_I (h := h2)))) ⟨fun x hx => ?_, a2⟩⟩
      rcases List.mem_cons.mp hx with rfl | hx
      · have hl := hw w[i] (List.getElem_mem hi')
        rw [decide_eq_true (by show (0 : Int) ≤ (w[i] : Int); omega), decide_eq_true (by show (w[i] : Int) < (s : Int); omega)]; rfl
      · exact a1 x hx
    · subst e1
      exact eas_nil ⟨_, _, all_true e2 e3, rfl, e4⟩
abbrev KWw (call : Call) (j : Nat) : Prop := ∀ (s : Nat) (w : List Nat) (h : DH), w.length ≤ 40 → wok s w → Ca call j [.int (.ofNat s), wd w] h (fun d h' => d = .non ∧ Ext h h')
/-- if a call answers True, nothing is raised -/
theorem sb_want {call : Call} {pm : List PArg} {es : Exs} {fr : Fr} {ds as : List DV} {jj : Nat} {R : Fr → DH → Prop} {P : DV → DH → Prop} {R1 : DH → Prop} (he : Evs es fr h ds h) (hp : pick pm ds = some as) (hc : Ca call jj as h (fun d h' => d = .bl true ∧ R1 h')) (hr : ∀ h', R1 h' → R fr h') : Sb (sIf (tNot (cTest (cCall call jj pm es))) sNo sNil) fr h R P :=
  sb_if (R1 := fun b h' => b = false ∧ R1 h') (ta_not (ta_of (ea_cv he hp (ca_imp hc fun d h' ⟨e, x⟩ => ⟨true, e, rfl, x⟩)))) (fun h' ⟨e, _⟩ => by cases e) fun h' ⟨_, x⟩ => sb_nil (hr h' x)
theorem k_ww {ji : Nat} (hj : fns j = .body 2 [] 0 b) (hb : b = fun call => w_want_word call ji) (hi : KIsW (callK fns q) ji) : KWw (callK fns (q + 1)) j := fun s w h h1 h2 => by
  subst hb
  exact ca_sb hj rfl (sb_want (evs_cons (ev_var rfl) (evs_cons (ev_var rfl) evs_nil)) rfl (hi s w h h1 h2) fun h' x => ⟨rfl, x⟩)
/-! ### rows of words -/
abbrev Wds (h : DH) (a : DV) (ws : List (List Nat)) : Prop := Sq h a (ws.map wd)
theorem wds_get {ws : List (List Nat)} {n : Nat} (hn : n < ws.length) : (ws.map wd)[n]? = some (wd ws[n]) := by rw [List.getElem?_map, List.getElem?_eq_getElem hn]; rfl
abbrev KIsWs (call : Call) (j : Nat) : Prop := ∀ (s : Nat) (a : DV) (ws : List (List Nat)) (h : DH), Wds h a ws → ws.length ≤ 128 → (∀ w ∈ ws, w.length ≤ 40 ∧ wok s w) → Ca call j [.int (.ofNat s), a] h (fun d h' => d = .bl true ∧ Ext h h')
theorem k_isws {jl jw : Nat} (hj : fns j = .body 2 [] 1 b) (hb : b = fun call => w_are_words_value call jl jw) (hl : KLst (callK fns q) jl) (hw : KIsW (callK fns q) jw) : KIsWs (callK fns (q + 1)) j := fun s a ws h hs h1 h2' => by
  subst hb
  have el : Cv (callK fns q) jl [a] h (.bl true) h := by
    rcases hs with ⟨i, rfl, _, g⟩ | rfl
    · exact hl.1 i _ h g
    · exact hl.2 _ h
  refine ca_sb hj rfl (sb_ret (ea_and (P1 := fun x h1 => x = .bl true ∧ h1 = h) (ea_v (ev_call (evs_cons (ev_var rfl) evs_nil) rfl el)) fun x h1 ⟨e1, e2⟩ => .inr ⟨e1, ?_⟩))
  subst e2
  refine ea_and (P1 := fun x h2 => x = .bl true ∧ h2 = h1) (ea_v ?_) fun x h2 ⟨e1, e2⟩ => .inr ⟨e1, ?_⟩
  · have e := ev_cmp (neg := false) (ev_bc (evs_cons (ev_var (i := 1) (fr := plainFr 1 [.int (.ofNat s), a]) (h := h1) (d := a) rfl) evs_nil) hs.len) (ev_cst (d := .int (.ofNat 128))) (le_I (h := h1))
    rw [List.length_map, decide_eq_true (by show (ws.length : Int) ≤ (128 : Int); omega)] at e
    exact e
  subst e2
  refine ea_bc (eas_cons (P := fun d h3 => ∃ i xs, d = .ref i ∧ h3.get i = some (.lst xs) ∧ (∀ x ∈ xs, x = .bl true) ∧ Ext h2 h3) (ea_lc (n := ws.length) (h1 := h2) (q := .sq a) (Inv := fun i h3 acc => (∀ x ∈ acc, x = .bl true) ∧ Ext h2 h3) (hs.iv (ev_var rfl)) (by omega) ⟨by simp, Ext.refl _⟩ (fun h3 acc ⟨_, x⟩ => by have e := (hs.ext x).nxtE; rw [List.length_map] at e; exact e) (fun h3 acc ⟨a1, a2⟩ => ⟨_, _, rfl, get_new_same _ _, fun x hx => a1 x (List.mem_reverse.mp hx), a2.trans (Ext.new _ _)⟩) fun i hi' h3 acc ⟨a1, a2⟩ => ?_) fun d h3 ⟨i, xs, e1, e2, e3, e4⟩ => ?_)
  · obtain ⟨q1, q2⟩ := h2' ws[i] (List.getElem_mem hi')
    refine ⟨_, _, _, (hs.ext a2).nxt (wds_get hi'), go_nm, ea_cv (evs_cons (ev_var rfl) (evs_cons (ev_var rfl) evs_nil)) rfl (ca_imp (hw s ws[i] h3 q1 q2) fun d h4 ⟨e5, x⟩ => ⟨fun y hy => ?_, a2.trans x⟩)⟩
    rcases List.mem_cons.mp hy with rfl | hy
    · exact e5
    · exact a1 y hy
  · subst e1
    exact eas_nil ⟨_, _, all_true e2 e3, rfl, e4⟩
abbrev KWws (call : Call) (j : Nat) : Prop := ∀ (s : Nat) (a : DV) (ws : List (List Nat)) (h : DH), Wds h a ws → ws.length ≤ 128 → (∀ w ∈ ws, w.length ≤ 40 ∧ wok s w) → Ca call j [.int (.ofNat s), a] h (fun d h' => d = .non ∧ Ext h h')
theorem k_wws {ji : Nat} (hj : fns j = .body 2 [] 0 b) (hb : b = fun call => w_want_words call ji) (hi : KIsWs (callK fns q) ji) : KWws (callK fns (q + 1)) j := fun s a ws h hs h1 h2 => by
  subst hb
  exact ca_sb hj rfl (sb_want (evs_cons (ev_var rfl) (evs_cons (ev_var rfl) evs_nil)) rfl (hi s a ws h hs h1 h2) fun h' x => ⟨rfl, x⟩)
/-! ### beginnings -/
def beg (u v : List Nat) : Bool := decide (v.take u.length = u)
def clash (u v : List Nat) : Bool := beg u v || beg v u
abbrev KBeg (call : Call) (j : Nat) : Prop := ∀ (u v : List Nat) (h : DH), Cv call j [wd u, wd v] h (.bl (beg u v)) h
theorem ev_beg {fr : Fr} {x y : Nat} {u v : List Nat} (hx : nth fr x = some (some (wd u))) (hy : nth fr y = some (some (wd v))) : Ev (cCmp false eqC (cSl (cVar y) oNo (oEx (cBc bLen (cCons (cVar x) cNil)))) (cVar x)) fr h (.bl (beg u v)) h := by
  have e := ev_cmp (neg := false) (ev_slT (ev_var hy) (ev_bc (evs_cons (ev_var (h := h) hx) evs_nil) lenT_ok)) (ev_var hx) (by rw [List.length_map, wd_take]; exact eqW (v.take u.length) u h)
  have : cnd (decide (v.take u.length = u)) (!false) false = beg u v := by
    unfold beg
    cases decide (v.take u.length = u) <;> rfl
  rw [this] at e; exact e
theorem k_beg (hj : fns j = .body 2 [] 0 b) (hb : b = fun _ => w_begins) : KBeg (callK fns (q + 1)) j := fun u v h => by
  subst hb
  exact cv_body hj rfl (sr_ret (ev_beg rfl rfl))
abbrev KClash (call : Call) (j : Nat) : Prop := ∀ (u v : List Nat) (h : DH), Cv call j [wd u, wd v] h (.bl (clash u v)) h
theorem k_clash {jb : Nat} (hj : fns j = .body 2 [] 0 b) (hb : b = fun call => w_two_clash call jb) (h1 : KBeg (callK fns q) jb) : KClash (callK fns (q + 1)) j := fun u v h => by
  subst hb
  refine cv_body hj rfl (sr_ret ?_)
  have e1 : Ev (cCall (callK fns q) jb [.at_ 0, .at_ 1] (cCons (cVar 0) (cCons (cVar 1) cNil))) (plainFr 0 [wd u, wd v]) h (.bl (beg u v)) h := ev_call (evs_cons (ev_var rfl) (evs_cons (ev_var rfl) evs_nil)) rfl (h1 u v h)
  have e2 : Ev (cCall (callK fns q) jb [.at_ 0, .at_ 1] (cCons (cVar 1) (cCons (cVar 0) cNil))) (plainFr 0 [wd u, wd v]) h (.bl (beg v u)) h := ev_call (evs_cons (ev_var rfl) (evs_cons (ev_var rfl) evs_nil)) rfl (h1 v u h)
  unfold clash
  cases hq : beg u v with
  | true => rw [hq] at e1; exact ev_ort e1
  | false => rw [hq] at e1; exact ev_orf e1 e2
/-! ### the first clash -/
def Apart (ws : List (List Nat)) : Prop := ∀ (i j : Nat) (hj : j < ws.length) (hi : i < j), clash (ws[i]'(Nat.lt_trans hi hj)) ws[j] = false
abbrev KFc (call : Call) (j : Nat) : Prop := ∀ (a : DV) (ws : List (List Nat)) (h : DH), Wds h a ws → ws.length ≤ 1000 → Ca call j [a] h (fun d h' => ((d = .non ∧ Apart ws) ∨ ∃ x y, d = .tup [x, y] ∧ ¬ Apart ws) ∧ Ext h h')
theorem k_fc {jc : Nat} (hj : fns j = .body 1 [] 4 b) (hb : b = fun call => w_first_clash call jc) (hc : KClash (callK fns q) jc) : KFc (callK fns (q + 1)) j := fun a ws h hs hl => by
  subst hb
  refine ca_sb hj rfl (sb_seq (R1 := fun fr h' => Apart ws ∧ Ext h h') (sb_for (n := ws.length) (q := .enm a) (Inv := fun i fr h' => Ext h h' ∧ (∃ o1 o2 o3 o4, fr = [some a, o1, o2, o3, o4]) ∧ ∀ (x y : Nat) (hy : y < ws.length) (hx : x < y), x < i → clash (ws[x]'(Nat.lt_trans hx hy)) ws[y] = false) (hs.ivE (evs_cons (ev_var rfl) evs_nil)) (by omega) ⟨Ext.refl _, ⟨_, _, _, _, rfl⟩, fun x y hy hx z => absurd z (Nat.not_lt_zero _)⟩
    (fun fr h' ⟨x, _⟩ => by have e := (hs.ext x).enmE; rw [List.length_map] at e; exact e) (fun i hi fr h' ⟨x, ⟨o1, o2, o3, o4, e1⟩, iv⟩ => ?_) fun fr h' ⟨x, _, iv⟩ => ⟨fun p r hr hp => iv p r hr hp (Nat.lt_trans hp hr), x⟩) fun fr h' ⟨p, x⟩ => sb_ret (ea_ev ev_cst ⟨.inl ⟨rfl, p⟩, x⟩))
  subst e1
  refine ⟨_, _, _, (hs.ext x).enm (wds_get hi), go_tup rfl (gos_cons go_nm (gos_cons go_nm gos_nil)), ?_⟩
  refine sb_nm (P1 := fun d h2 => ∃ (r : Nat) (xs : List Nat), d = .ref r ∧ r < h2.n ∧ h2.get r = some (.lst (xs.map fun n => DV.int (.ofNat n))) ∧ Ext h h2 ∧ (∀ n ∈ xs, ∃ hn : n < ws.length, i < n ∧ clash ws[i] ws[n] = true) ∧ ∀ (n : Nat) (hn : n < ws.length), i < n → clash ws[i] ws[n] = true → n ∈ xs) ?_ fun d h2 ⟨r, xs, e1, hr, g, x2, p1, p2⟩ => ?_
  · refine ea_lcC (n := ws.length - (i + 1)) (h1 := h') (q := .rng (.ofNat (i + 1)) (ws.length - (i + 1))) (Inv := fun m h2 acc => Ext h h2 ∧ ∃ xs : List Nat, acc.reverse = xs.map (fun n => DV.int (.ofNat n)) ∧ (∀ n ∈ xs, ∃ hn : n < ws.length, i < n ∧ clash ws[i] ws[n] = true) ∧ ∀ (n : Nat) (hn : n < ws.length), i < n → n < i + 1 + m → clash ws[i] ws[n] = true → n ∈ xs)
      ?_ (by omega) ⟨x, [], rfl, by simp, fun n _ a1 a2 => by omega⟩ (fun _ _ _ => rng_end) (fun m hm h2 acc ⟨x2, xs, e1, p1, p2⟩ => ?_) fun h2 acc ⟨x2, xs, e1, p1, p2⟩ => ⟨h2.n, xs, rfl, Nat.lt_succ_self _, by rw [get_new_same, e1], x2.trans (Ext.new _ _), p1, fun n hn a1 a2 => p2 n hn a1 (by omega) a2⟩
    · refine iv_rng2 (lo := i + 1) (hi := .ofNat ws.length) (evs_cons (ev_bin (ev_var rfl) ev_cst rfl) (evs_cons (ev_bc (evs_cons (ev_var rfl) evs_nil) (by have e := (hs.ext x).len; rw [List.length_map] at e; exact e)) evs_nil)) (by omega) (small_nat (by omega)) ?_
      show ((ws.length : Int) - ((i + 1 : Nat) : Int)).toNat = _
      omega
    · have hn : i + 1 + m < ws.length := by omega
      refine ⟨_, _, _, rng_at hm, go_nm, ?_⟩
      have et : Ev (cCall (callK fns q) jc [.at_ 0, .at_ 1] (cCons (cVar 2) (cCons (cIx (cVar 0) (cVar 4)) cNil))) [some a, some (.int (.ofNat i)), some (wd ws[i]), o3, some (.int (Int.add (.ofNat (i + 1)) (.ofNat m)))] h2 (.bl (clash ws[i] ws[i + 1 + m])) h2 :=
        ev_call (evs_cons (ev_var rfl) (evs_cons (ev_ix (ev_var rfl) (ev_var rfl) ((hs.ext x2).at (n := i + 1 + m) (wds_get hn))) evs_nil)) rfl (hc _ _ h2)
      refine ta_b et ?_
      cases hq : clash ws[i] ws[i + 1 + m] with
      | true =>
        refine .inl ⟨rfl, ea_ev (ev_var rfl) ⟨x2, xs ++ [i + 1 + m], ?_, fun n hn' => ?_, fun n hn' a1 a2 a3 => ?_⟩⟩
        · rw [List.reverse_cons, e1, List.map_append]; rfl
        · rcases List.mem_append.mp hn' with z | z
          · exact p1 n z
          · have : n = i + 1 + m := by simpa using z
            subst this; exact ⟨hn, by omega, hq⟩
        · by_cases z : n = i + 1 + m
          · subst z; exact List.mem_append_right _ (List.mem_singleton.mpr rfl)
          · exact List.mem_append_left _ (p2 n hn' a1 (by omega) a3)
      | false =>
        refine .inr ⟨rfl, x2, xs, e1, p1, fun n hn' a1 a2 a3 => ?_⟩
        by_cases z : n = i + 1 + m
        · subst z; rw [hq] at a3; cases a3
        · exact p2 n hn' a1 (by omega) a3
  · subst e1
    have x3 : Ext h (h2.new (.lst [])) := x2.trans (Ext.new _ _)
    have g3 : (h2.new (.lst [])).get r = some (.lst (xs.map fun n => DV.int (.ofNat n))) := by rw [get_new_ne _ _ (by omega)]; exact g
    refine sb_if (R1 := fun b h3 => b = (!decide (xs = [])) ∧ h3 = h2.new (.lst [])) (ta_cmp (ev_var rfl) (ev_lst evs_nil) (eq_nilI g3 (get_new_same h2 _)) ⟨by cases decide (xs = []) <;> rfl, rfl⟩) (fun h3 ⟨e1, e2⟩ => ?_) fun h3 ⟨e1, e2⟩ => ?_
    · subst e2
      have hne : xs ≠ [] := fun z => by rw [z] at e1; simp at e1
      obtain ⟨n, ys, rfl⟩ : ∃ n ys, xs = n :: ys := by
        cases xs with
        | nil => exact absurd rfl hne
        | cons n ys => exact ⟨n, ys, rfl⟩
      obtain ⟨hn, hi2, hq⟩ := p1 n (List.mem_cons_self ..)
      refine sb_ret (ea_ev (ev_tup (evs_cons (ev_var rfl) (evs_cons (ev_ix (ev_var rfl) ev_cst (ixL (n := 0) g3 rfl)) evs_nil))) ⟨.inr ⟨_, _, rfl, fun p => ?_⟩, x3⟩)
      have := p i n hn hi2
      rw [hq] at this; cases this
    · subst e2
      have hne : xs = [] := by
        cases xs with
        | nil => rfl
        | cons n ys => simp at e1
      subst hne
      refine sb_nil ⟨x3, ⟨_, _, _, _, rfl⟩, fun p r hr hp hi3 => ?_⟩
      rcases Nat.lt_or_ge p i with z | z
      · exact iv p r hr hp z
      · have : p = i := by omega
        subst this
        cases hq : clash ws[p] ws[r] with
        | false => rfl
        | true => exact absurd (p2 r hr hp hq) (by simp)
end
end Dz

set_option Elab.async false
set_option linter.all false
set_option maxRecDepth 100000
set_option maxHeartbeats 4000000
/-! Words and numbers, by hand. -/
namespace Dz
open PySem L2
/-! ### the bodies -/
noncomputable def w_is_word (call : Call) (j_want_size j_is_word_value : Nat) : Sx := (sSeq (sExpr (cCall call j_want_size [.at_ 0] (cCons (cVar 0) cNil))) (sRet (cCall call j_is_word_value [.at_ 0, .at_ 1] (cCons (cVar 0) (cCons (cVar 1) cNil)))))
noncomputable def w_does_begin (call : Call) (j_want_size j_want_word j_begins : Nat) : Sx := (sSeq (sExpr (cCall call j_want_size [.at_ 0] (cCons (cVar 0) cNil))) (sSeq (sExpr (cCall call j_want_word [.at_ 0, .at_ 1] (cCons (cVar 0) (cCons (cVar 1) cNil)))) (sSeq (sExpr (cCall call j_want_word [.at_ 0, .at_ 1] (cCons (cVar 0) (cCons (cVar 2) cNil)))) (sRet (cCall call j_begins [.at_ 0, .at_ 1] (cCons (cVar 1) (cCons (cVar 2) cNil)))))))
noncomputable def w_are_apart (call : Call) (j_want_size j_want_words j_first_clash : Nat) : Sx := (sSeq (sExpr (cCall call j_want_size [.at_ 0] (cCons (cVar 0) cNil))) (sSeq (sExpr (cCall call j_want_words [.at_ 0, .at_ 1] (cCons (cVar 0) (cCons (cVar 1) cNil)))) (sRet (cCmp false isC (cCall call j_first_clash [.at_ 0] (cCons (cVar 1) cNil)) (cCst .non)))))
noncomputable def w_split (call : Call) (j_want_size j_want_word j_want_at_most j_split_of : Nat) : Sx := (sSeq (sExpr (cCall call j_want_size [.at_ 0] (cCons (cVar 0) cNil))) (sSeq (sExpr (cCall call j_want_word [.at_ 0, .at_ 1] (cCons (cVar 0) (cCons (cVar 1) cNil)))) (sSeq (sExpr (cCall call j_want_at_most [.at_ 0, .at_ 1, .at_ 2] (cCons (cCst (.str [108, 101, 116, 116, 101, 114, 115])) (cCons (cCst (.int (.ofNat 40))) (cCons (cBin opAdd (cBc bLen (cCons (cVar 1) cNil)) (cCst (.int (.ofNat 1)))) cNil))))) (sRet (cCall call j_split_of [.at_ 0, .at_ 1] (cCons (cVar 0) (cCons (cVar 1) cNil)))))))
noncomputable def w_common_beginning (call : Call) (j_want_size j_want_word j_common_of : Nat) : Sx := (sSeq (sExpr (cCall call j_want_size [.at_ 0] (cCons (cVar 0) cNil))) (sSeq (sExpr (cCall call j_want_word [.at_ 0, .at_ 1] (cCons (cVar 0) (cCons (cVar 1) cNil)))) (sSeq (sExpr (cCall call j_want_word [.at_ 0, .at_ 1] (cCons (cVar 0) (cCons (cVar 2) cNil)))) (sRet (cCall call j_common_of [.at_ 0, .at_ 1] (cCons (cVar 1) (cCons (cVar 2) cNil)))))))
noncomputable def w_word_number (call : Call) (j_want_size j_want_word j_number_of : Nat) : Sx := (sSeq (sExpr (cCall call j_want_size [.at_ 0] (cCons (cVar 0) cNil))) (sSeq (sExpr (cCall call j_want_word [.at_ 0, .at_ 1] (cCons (cVar 0) (cCons (cVar 1) cNil)))) (sRet (cCall call j_number_of [.at_ 0, .at_ 1] (cCons (cVar 0) (cCons (cVar 1) cNil))))))
noncomputable def w_word_at (call : Call) (j_want_size j_want_many j_is_count j_times j_word_by : Nat) : Sx := (sSeq (sExpr (cCall call j_want_size [.at_ 0] (cCons (cVar 0) cNil))) (sSeq (sExpr (cCall call j_want_many [.at_ 0, .at_ 1, .dv (.int (.ofNat 0))] (cCons (cVar 1) (cCons (cCst (.int (.ofNat 40))) cNil)))) (sSeq (sIf (tOr (tNot (cTest (cCall call j_is_count [.at_ 0] (cCons (cVar 2) cNil)))) (cTest (cCmp false geC (cVar 2) (cCall call j_times [.at_ 0, .at_ 1] (cCons (cVar 0) (cCons (cVar 1) cNil)))))) sNo sNil) (sRet (cCall call j_word_by [.at_ 0, .at_ 1, .at_ 2] (cCons (cVar 0) (cCons (cVar 1) (cCons (cVar 2) cNil))))))))
noncomputable def w_all_words (call : Call) (j_want_size j_want_many j_times j_want_at_most j_word_by : Nat) : Sx := (sSeq (sExpr (cCall call j_want_size [.at_ 0] (cCons (cVar 0) cNil))) (sSeq (sExpr (cCall call j_want_many [.at_ 0, .at_ 1, .dv (.int (.ofNat 0))] (cCons (cVar 1) (cCons (cCst (.int (.ofNat 40))) cNil)))) (sSeq (sAsg (gNm 2) (cCall call j_times [.at_ 0, .at_ 1] (cCons (cVar 0) (cCons (cVar 1) cNil)))) (sSeq (sExpr (cCall call j_want_at_most [.at_ 0, .at_ 1, .at_ 2] (cCons (cCst (.str [119, 111, 114, 100, 115])) (cCons (cCst (.int (.ofNat 400))) (cCons (cVar 2) cNil))))) (sRet (cLc [3] (cCall call j_word_by [.at_ 0, .at_ 1, .at_ 2] (cCons (cVar 0) (cCons (cVar 1) (cCons (cVar 3) cNil)))) (gNm 3) (iRng (cCons (cVar 2) cNil))))))))
section
variable {fns : Nat → FnD} {q j : Nat} {b : Call → Sx} {h : DH}
/-! ### what two words begin with together -/
theorem snocInd {α : Type} {P : List α → Prop} (h0 : P []) (hs : ∀ u c, P u → P (u ++ [c])) : ∀ w, P w := fun w => by
  have : ∀ v : List α, P v.reverse := fun v => by
    induction v with
    | nil => exact h0
    | cons c u ih => rw [List.reverse_cons]; exact hs _ _ ih
  rw [← List.reverse_reverse w]; exact this _
def comm : List Nat → List Nat → List Nat
  | a :: u, b :: v => if a = b then a :: comm u v else []
  | _, _ => []
theorem comm_take : ∀ {n : Nat} {u v : List Nat}, n ≤ u.length → n ≤ v.length → (∀ i (hu : i < u.length) (hv : i < v.length), i < n → u[i] = v[i]) → (n = u.length ∨ n = v.length ∨ ∃ (hu : n < u.length) (hv : n < v.length), u[n] ≠ v[n]) → u.take n = comm u v
  | n, [], v, h1, h2, h3, h4 => by
    have : n = 0 := by simpa using h1
    subst this
    cases v <;> rfl
  | n, a :: u, [], h1, h2, h3, h4 => by
    have : n = 0 := by simpa using h2
    subst this; rfl
  | 0, a :: u, b :: v, h1, h2, h3, h4 => by
    rcases h4 with h4 | h4 | ⟨_, _, h4⟩
    · simp at h4
    · simp at h4
    · show [] = if a = b then a :: comm u v else []
      rw [if_neg (show ¬ a = b from h4)]
  | n + 1, a :: u, b :: v, h1, h2, h3, h4 => by
    have e : a = b := h3 0 (by simp) (by simp) (Nat.zero_lt_succ _)
    subst e
    show a :: u.take n = if a = a then a :: comm u v else []
    rw [if_pos rfl, comm_take (n := n) (u := u) (v := v) (by simpa using h1) (by simpa using h2) (fun i hu hv hi => h3 (i + 1) (by simpa using hu) (by simpa using hv) (by omega)) ?_]
    rcases h4 with h4 | h4 | ⟨z1, z2, h4⟩
    · exact .inl (by simpa using h4)
    · exact .inr (.inl (by simpa using h4))
    · exact .inr (.inr ⟨by simpa using z1, by simpa using z2, h4⟩)
theorem comm_eq : ∀ (u v : List Nat), (comm u v = u) = (beg u v = true)
  | [], v => by simp [comm, beg]
  | a :: u, [] => by simp [comm, beg]
  | a :: u, b :: v => by
    have ih := comm_eq u v
    unfold beg at *
    by_cases e : a = b
    · subst e
      simp only [comm, if_true, List.length_cons, List.take_succ_cons, List.cons.injEq, true_and, decide_eq_true_eq] at *
      first | done | exact ih
    · simp [comm, e, Ne.symm e]
theorem comm_pre : ∀ (u v : List Nat), ∃ n, comm u v = u.take n
  | [], v => ⟨0, by cases v <;> rfl⟩
  | a :: u, [] => ⟨0, rfl⟩
  | a :: u, b :: v => by
    obtain ⟨n, e⟩ := comm_pre u v
    by_cases z : a = b
    · exact ⟨n + 1, by show (if a = b then a :: comm u v else []) = _; rw [if_pos z, e]; rfl⟩
    · exact ⟨0, by show (if a = b then a :: comm u v else []) = _; rw [if_neg z]; rfl⟩
theorem min_ok {m n : Nat} : bMin [.int (.ofNat m), .int (.ofNat n)] h = some (.int (.ofNat (min m n)), h) := by
  show some (DV.int (cnd (intLt (.ofNat n) (.ofNat m)) (.ofNat n) (.ofNat m)), h) = _
  rw [intLt_iff]
  by_cases z : n < m
  · rw [decide_eq_true (by show (n : Int) < (m : Int); omega), Nat.min_eq_right (by omega)]; rfl
  · rw [decide_eq_false (by show ¬ ((n : Int) < (m : Int)); omega), Nat.min_eq_left (by omega)]; rfl
abbrev KComm (call : Call) (j : Nat) : Prop := ∀ (u v : List Nat) (h : DH), u.length ≤ 1000 → Ca call j [wd u, wd v] h (fun d h' => d = wd (comm u v) ∧ h' = h)
theorem ltN {m n : Nat} : ltC (.int (.ofNat m)) (.int (.ofNat n)) h = ofB (decide (m < n)) := by
  rw [lt_I]; congr 1; rw [decide_eq_decide]; exact Int.ofNat_lt
theorem eqN_ {m n : Nat} : eqC (.int (.ofNat m)) (.int (.ofNat n)) h = ofB (decide (m = n)) := by
  rw [eq_I]; congr 1; rw [decide_eq_decide]; exact Int.ofNat_inj
theorem k_comm (hj : fns j = .body 2 [] 1 b) (hb : b = fun _ => w_common_of) : KComm (callK fns (q + 1)) j := fun u v h hl => by
  subst hb
  refine ca_sb hj rfl (sb_sv2 (sv_asg ev_cst go_nm) ?_)
  refine sb_seq (R1 := fun fr h' => h' = h ∧ ∃ n, fr = [some (wd u), some (wd v), some (.int (.ofNat n))] ∧ u.take n = comm u v) (sb_sa (sa_while (m := u.length) (R := fun fr h' => h' = h ∧ ∃ n, fr = [some (wd u), some (wd v), some (.int (.ofNat n))] ∧ u.take n = comm u v) (Inv := fun m fr h' => h' = h ∧ ∃ n, fr = [some (wd u), some (wd v), some (.int (.ofNat n))] ∧ m = u.length - n ∧ n ≤ u.length ∧ n ≤ v.length ∧ ∀ i (hu : i < u.length) (hv : i < v.length), i < n → u[i] = v[i]) (by omega)
    ⟨rfl, 0, rfl, by omega, by omega, by omega, fun i _ _ z => absurd z (Nat.not_lt_zero _)⟩ fun m fr h' ⟨e1, n, e2, e3, n1, n2, iv⟩ => ?_)) fun fr h' ⟨e1, n, e2, e3⟩ => ?_
  rotate_left
  · subst e1 e2
    refine ta_and (P1 := fun c h2 => c = decide (n < min u.length v.length) ∧ h2 = h') ?_ (fun h2 ⟨c1, c2⟩ => ?_) (fun h2 ⟨c1, c2⟩ => Or.inl ⟨rfl, c2, n, rfl, ?_⟩)
    · exact ta_cmp (ev_var rfl) (ev_bc (evs_cons (ev_bc (evs_cons (ev_var rfl) evs_nil) (lenT_ok (xs := u.map fun c => DV.int (.ofNat c)))) (evs_cons (ev_bc (evs_cons (ev_var rfl) evs_nil) (lenT_ok (xs := v.map fun c => DV.int (.ofNat c)))) evs_nil)) (by rw [List.length_map, List.length_map]; exact min_ok)) ltN ⟨by cases decide (n < min u.length v.length) <;> rfl, rfl⟩
    · subst c2
      have c1 : n < min u.length v.length := of_decide_eq_true c1.symm
      have hu : n < u.length := by omega
      have hv : n < v.length := by omega
      refine ta_cmp (ev_ix (ev_var rfl) (ev_var rfl) (ixT (n := n) (wd_get hu))) (ev_ix (ev_var rfl) (ev_var rfl) (ixT (n := n) (wd_get hv))) eqN_ ?_
      by_cases z : u[n] = v[n]
      · rw [decide_eq_true z]
        refine .inr ⟨rfl, sa_sv (sv_asg (ev_bin (ev_var rfl) ev_cst op_addN) go_nm) ⟨u.length - (n + 1), by omega, rfl, n + 1, rfl, rfl, hu, hv, fun i a1 a2 a3 => ?_⟩⟩
        by_cases y : i = n
        · subst y; exact z
        · exact iv i a1 a2 (by omega)
      · rw [decide_eq_false z]
        exact .inl ⟨rfl, rfl, n, rfl, comm_take n1 n2 iv (.inr (.inr ⟨hu, hv, z⟩))⟩
    · have c1 : ¬ n < min u.length v.length := of_decide_eq_false c1.symm
      exact comm_take n1 n2 iv (by omega)
  · subst e1 e2
    have es := ev_slT (xs := u.map fun c => DV.int (.ofNat c)) (n := n) (ev_var (i := 0) (fr := [some (wd u), some (wd v), some (.int (.ofNat n))]) (h := h') rfl) (ev_var (i := 2) rfl)
    rw [wd_take, e3] at es
    exact sb_ret (ea_ev es ⟨rfl, rfl⟩)
/-! ### numbers -/
abbrev KTimes (call : Call) (j : Nat) : Prop := ∀ (s m : Nat) (h : DH), s ≤ 4 → m ≤ 100 → Cv call j [.int (.ofNat s), .int (.ofNat m)] h (.int (.ofNat (s ^ m))) h
theorem pow_lt2 {s : Nat} (hs : s ≤ 4) (m : Nat) : s ^ m ≤ 2 ^ (2 * m) := by
  rw [Nat.pow_mul]; exact Nat.pow_le_pow_left hs m
theorem pow_lt3 {s m k : Nat} (hs : s ≤ 4) (hm : 2 * m < k) : s ^ m < 2 ^ k := Nat.lt_of_le_of_lt (pow_lt2 hs m) (Nat.pow_lt_pow_right (by decide) hm)
theorem k_times (hj : fns j = .body 2 [] 2 b) (hb : b = fun _ => w_times) : KTimes (callK fns (q + 1)) j := fun s m h h1 h2 => by
  subst hb
  obtain ⟨fr', h', ⟨e1, o, e2⟩, sv⟩ := sv_for (g := gNm 3) (s := sAsg (gNm 2) (cBin opMul (cVar 2) (cVar 0))) (n := m)
    (Inv := fun i fr h' => h' = h ∧ ∃ o, fr = [some (.int (.ofNat s)), some (.int (.ofNat m)), some (.int (.ofNat (s ^ i))), o])
    (iv_rng1 (fr := [some (.int (.ofNat s)), some (.int (.ofNat m)), some (.int (.ofNat 1)), none]) (h := h) (evs_cons (ev_var (i := 1) rfl) evs_nil) (by omega)) (by omega) ⟨rfl, none, rfl⟩ (fun _ _ _ => rng_end)
    (fun i hi fr h iv => by
      obtain ⟨rfl, o, rfl⟩ := iv
      exact ⟨_, _, _, _, _, rng0 hi, go_nm, sv_asg (x := .int (.ofNat (s ^ (i + 1)))) (ev_bin (ev_var rfl) (ev_var rfl) (op_mulN (p := 300) (q := 20) (pow_lt3 h1 (by omega)) (p20 (by omega)) (by decide) (by decide) (by decide))) go_nm, rfl, _, rfl⟩)
  rw [e1, e2] at sv
  exact cv_body hj rfl (sr_seq (sv_asg ev_cst go_nm) (sr_seq sv (sr_ret (ev_var rfl))))
/-- a word's number -/
def valN (s : Nat) (w : List Nat) : Nat := w.foldl (fun a c => a * s + c) 0
theorem valN_snoc (s : Nat) (w : List Nat) (c : Nat) : valN s (w ++ [c]) = valN s w * s + c := by unfold valN; rw [List.foldl_append]; rfl
theorem val_lt {s : Nat} : ∀ {w : List Nat}, wok s w → valN s w < s ^ w.length := fun {w} => by
  refine snocInd (P := fun w => wok s w → valN s w < s ^ w.length) (fun _ => by show 0 < 1; omega) (fun u c ih hw => ?_) w
  have h1 := ih fun x hx => hw x (List.mem_append_left _ hx)
  have h2 := hw c (List.mem_append_right _ (List.mem_singleton.mpr rfl))
  rw [valN_snoc, List.length_append, List.length_singleton, Nat.pow_succ]
  have : (valN s u + 1) * s ≤ s ^ u.length * s := Nat.mul_le_mul_right s h1
  rw [Nat.add_mul] at this
  omega
abbrev KNum (call : Call) (j : Nat) : Prop := ∀ (s : Nat) (w : List Nat) (h : DH), s ≤ 4 → w.length ≤ 100 → wok s w → Cv call j [.int (.ofNat s), wd w] h (.int (.ofNat (valN s w))) h
theorem k_num (hj : fns j = .body 2 [] 2 b) (hb : b = fun _ => w_number_of) : KNum (callK fns (q + 1)) j := fun s w h h1 h2 hw => by
  subst hb
  obtain ⟨fr', h', ⟨e1, o, e2⟩, sv⟩ := sv_for (g := gNm 3) (s := sAsg (gNm 2) (cBin opAdd (cBin opMul (cVar 2) (cVar 0)) (cVar 3))) (n := w.length) (q := .sq (wd w))
    (Inv := fun i fr h' => h' = h ∧ ∃ o, fr = [some (.int (.ofNat s)), some (wd w), some (.int (.ofNat (valN s (w.take i)))), o])
    (iv_sqT (xs := w.map fun c => DV.int (.ofNat c)) (ev_var (i := 1) (fr := [some (.int (.ofNat s)), some (wd w), some (.int (.ofNat 0)), none]) (h := h) rfl)) (by omega) ⟨rfl, none, rfl⟩ (fun _ _ _ => it_wdE)
    (fun i hi fr h iv => by
      obtain ⟨rfl, o, rfl⟩ := iv
      refine ⟨_, _, _, _, _, it_wd hi, go_nm, sv_asg (x := .int (.ofNat (valN s (w.take (i + 1))))) ?_ go_nm, rfl, _, rfl⟩
      have hv := val_lt (wok_take hw i)
      have hv2 : valN s (w.take i) < 2 ^ 300 := Nat.lt_trans hv (pow_lt3 h1 (by rw [List.length_take]; omega))
      rw [List.take_succ_eq_append_getElem hi, valN_snoc]
      exact ev_bin (ev_bin (ev_var rfl) (ev_var rfl) (op_mulN (p := 300) (q := 20) hv2 (p20 (by omega)) (by decide) (by decide) (by decide))) (ev_var rfl) op_addN)
  rw [e1, e2, List.take_of_length_le (Nat.le_refl _)] at sv
  exact cv_body hj rfl (sr_seq (sv_asg ev_cst go_nm) (sr_seq sv (sr_ret (ev_var rfl))))
/-- the word of a length with a number -/
def digN (s : Nat) : Nat → Nat → List Nat
  | 0, _ => []
  | l + 1, n => digN s l (n / s) ++ [n % s]
theorem dig_len (s : Nat) : ∀ l n, (digN s l n).length = l
  | 0, _ => rfl
  | l + 1, n => by rw [digN, List.length_append, dig_len s l]; rfl
theorem dig_ok {s : Nat} (hs : 0 < s) : ∀ l n, wok s (digN s l n)
  | 0, _ => wok_nil
  | l + 1, n => wok_app (dig_ok hs l _) fun c hc => by
    have : c = n % s := by simpa using hc
    subst this; exact Nat.mod_lt _ hs
theorem dig_val {s : Nat} (hs : 0 < s) : ∀ {w : List Nat}, wok s w → digN s w.length (valN s w) = w := fun {w} => by
  refine snocInd (P := fun w => wok s w → digN s w.length (valN s w) = w) (fun _ => rfl) (fun u c ih hw => ?_) w
  have h1 := ih fun x hx => hw x (List.mem_append_left _ hx)
  have h2 := hw c (List.mem_append_right _ (List.mem_singleton.mpr rfl))
  rw [valN_snoc, List.length_append, List.length_singleton, digN]
  have e1 : (valN s u * s + c) / s = valN s u := by
    rw [Nat.mul_comm, Nat.mul_add_div hs, Nat.div_eq_of_lt h2, Nat.add_zero]
  have e2 : (valN s u * s + c) % s = c := by
    rw [Nat.mul_comm, Nat.mul_add_mod, Nat.mod_eq_of_lt h2]
  rw [e1, e2, h1]
theorem val_dig {s : Nat} (hs : 0 < s) : ∀ (l n : Nat), n < s ^ l → valN s (digN s l n) = n
  | 0, n, h => by
    have : n = 0 := by simpa using h
    subst this; rfl
  | l + 1, n, h => by
    rw [digN, valN_snoc, val_dig hs l (n / s) (by rw [Nat.div_lt_iff_lt_mul hs]; rw [Nat.pow_succ] at h; exact h)]
    exact Nat.div_add_mod' n s
theorem val_app (s : Nat) (u : List Nat) : ∀ v : List Nat, valN s (u ++ v) = valN s u * s ^ v.length + valN s v := fun v => by
  refine snocInd (P := fun v => valN s (u ++ v) = valN s u * s ^ v.length + valN s v) (by simp [valN]) (fun v c ih => ?_) v
  rw [← List.append_assoc, valN_snoc, ih, valN_snoc, List.length_append, List.length_singleton, Nat.pow_succ, Nat.add_mul, Nat.mul_assoc]
  omega
abbrev KBy (call : Call) (j : Nat) : Prop := ∀ (s l n : Nat) (h : DH), 1 ≤ s → s ≤ 4 → l ≤ 100 → n < 2 ^ 300 → Cv call j [.int (.ofNat s), .int (.ofNat l), .int (.ofNat n)] h (wd (digN s l n)) h
theorem k_by (hj : fns j = .body 3 [] 3 b) (hb : b = fun _ => w_word_by) : KBy (callK fns (q + 1)) j := fun s l n h h0 h1 h2 hn => by
  subst hb
  obtain ⟨fr', h', ⟨e1, w, m, o, e2, e3, _⟩, sv⟩ := sv_for (g := gNm 5) (s := (sSeq (sAsg (gNm 3) (cBin opAdd (cTup (cCons (cBin0 (opInt subI) (cVar 4) (cBin opMul (cVar 0) (cBin0 (opInt fdivI) (cVar 4) (cVar 0)))) cNil)) (cVar 3))) (sAsg (gNm 4) (cBin0 (opInt fdivI) (cVar 4) (cVar 0))))) (n := l)
    (Inv := fun i fr h' => h' = h ∧ ∃ w m o, fr = [some (.int (.ofNat s)), some (.int (.ofNat l)), some (.int (.ofNat n)), some (wd w), some (.int (.ofNat m)), o] ∧ digN s l n = digN s (l - i) m ++ w ∧ m ≤ n ∧ w.length ≤ 100 + i)
    (iv_rng1 (fr := [some (.int (.ofNat s)), some (.int (.ofNat l)), some (.int (.ofNat n)), some (.tup []), some (.int (.ofNat n)), none]) (h := h) (evs_cons (ev_var (i := 1) rfl) evs_nil) (by omega)) (by omega) ⟨rfl, [], n, none, rfl, by simp, Nat.le_refl _, by simp⟩ (fun _ _ _ => rng_end)
    (fun i hi fr h iv => by
      obtain ⟨rfl, w, m, o, rfl, e3, hm, hw⟩ := iv
      have ed : digN s (l - i) m = digN s (l - (i + 1)) (m / s) ++ [m % s] := by
        rw [show l - i = (l - (i + 1)) + 1 from by omega, digN]
      have e5 : m - s * (m / s) = m % s := by
        have := Nat.div_add_mod m s; omega
      refine ⟨_, _, _, _, _, rng0 hi, go_nm, sv_seq (sv_asg (x := wd (m % s :: w)) (ev_bin (ev_tup (evs_cons (ev_bin0 (z := .int (.ofNat (m % s))) (ev_var rfl) (ev_bin (z := .int (.ofNat (s * (m / s)))) (ev_var rfl) (ev_bin0 (z := .int (.ofNat (m / s))) (ev_var rfl) (ev_var rfl) (op_fdivN (by omega) (p9000 (by omega)))) (op_mulN (p := 20) (q := 300) (p20 (by omega)) (Nat.lt_of_le_of_lt (Nat.div_le_self _ _) (Nat.lt_of_le_of_lt hm hn)) (by decide) (by decide) (by decide))) (by rw [op_subN (Nat.mul_div_le m s), e5])) evs_nil)) (ev_var rfl) (addT_ok (ys := w.map fun c => DV.int (.ofNat c)) (by rw [List.length_map]; show 1 + _ ≤ _; omega))) go_nm)
        (sv_asg (ev_bin0 (ev_var rfl) (ev_var rfl) (op_fdivN (by omega) (p9000 (by omega)))) go_nm), rfl, m % s :: w, m / s, _, rfl, ?_, Nat.le_trans (Nat.div_le_self _ _) hm, by rw [List.length_cons]; omega⟩
      rw [e3, ed, List.append_assoc]; rfl)
  rw [Nat.sub_self] at e3
  have e3 : digN s l n = w := e3
  rw [e1, e2, ← e3] at sv
  exact cv_body hj rfl (sr_seq (sv_par2 (evs_cons (ev_tup evs_nil) (evs_cons (ev_var rfl) evs_nil))) (sr_seq sv (sr_ret (ev_var rfl))))
end
end Dz

set_option Elab.async false
set_option linter.all false
set_option maxRecDepth 100000
set_option maxHeartbeats 4000000
/-! Texts (repr) of data that stay, by hand. -/
namespace Dz
open PySem L2
/-- a list that was made, and stands -/
def Made (h h' : DH) (d : DV) (xs : List DV) : Prop := ∃ i, d = .ref i ∧ h.n ≤ i ∧ i < h'.n ∧ h'.get i = some (.lst xs) ∧ Ext h h'
theorem Made.sq {h h' : DH} {d : DV} {xs : List DV} (m : Made h h' d xs) : Sq h' d xs := let ⟨i, e, _, a, b, _⟩ := m; .inl ⟨i, e, a, b⟩
theorem Made.x {h h' : DH} {d : DV} {xs : List DV} (m : Made h h' d xs) : Ext h h' := let ⟨_, _, _, _, _, x⟩ := m; x
theorem Made.new {h h' : DH} (x : Ext h h') (xs : List DV) : Made h (h'.new (.lst xs)) (.ref h'.n) xs := ⟨h'.n, rfl, x.le, Nat.lt_succ_self _, get_new_same _ _, x.trans (Ext.new _ _)⟩
theorem Made.pre {h0 h h' : DH} {d : DV} {xs : List DV} (x : Ext h0 h) (m : Made h h' d xs) : Made h0 h' d xs := let ⟨i, e, a, b, c, y⟩ := m; ⟨i, e, Nat.le_trans x.le a, b, c, x.trans y⟩
/-- the texts, with what stands between -/
def joinT : List (List Nat) → List Nat
  | [] => []
  | [a] => a
  | a :: r => a ++ (44 :: 32 :: joinT r)
def okc (t : List Nat) : Prop := ∀ c ∈ t, c < 1114112
theorem okc_app {s t : List Nat} (hs : okc s) (ht : okc t) : okc (s ++ t) := fun c hc => (List.mem_append.mp hc).elim (hs c) (ht c)
theorem okc_cons {c : Nat} {t : List Nat} (hc : c < 1114112) (ht : okc t) : okc (c :: t) := fun x hx => by
  rcases List.mem_cons.mp hx with rfl | hx
  · exact hc
  · exact ht x hx
theorem okc_nil : okc [] := fun c hc => by simp at hc
theorem join_cons (a : List Nat) {r : List (List Nat)} (hr : r ≠ []) : joinT (a :: r) = a ++ (44 :: 32 :: joinT r) := by
  cases r with
  | nil => exact absurd rfl hr
  | cons b s => rfl
theorem join_len {B : Nat} : ∀ {ts : List (List Nat)}, (∀ t ∈ ts, t.length ≤ B) → (joinT ts).length ≤ ts.length * (B + 2)
  | [], _ => by simp [joinT]
  | [a], h => by
    have := h a (List.mem_singleton.mpr rfl)
    show a.length ≤ 1 * (B + 2)
    omega
  | a :: b :: r, h => by
    have h1 := h a (List.mem_cons_self ..)
    have h2 := join_len (ts := b :: r) fun t ht => h t (List.mem_cons_of_mem _ ht)
    rw [join_cons a (by simp), List.length_append, List.length_cons, List.length_cons, List.length_cons, Nat.add_mul]
    omega
theorem join_okc : ∀ {ts : List (List Nat)}, (∀ t ∈ ts, okc t) → okc (joinT ts)
  | [], _ => okc_nil
  | [a], h => h a (List.mem_singleton.mpr rfl)
  | a :: b :: r, h => by
    rw [join_cons a (by simp)]
    exact okc_app (h a (List.mem_cons_self ..)) (okc_cons (by decide) (okc_cons (by decide) (join_okc fun t ht => h t (List.mem_cons_of_mem _ ht))))
theorem texts_ok {tx : DV → OT} {T : DV → List Nat} : ∀ {xs : List DV}, (∀ x ∈ xs, tx x = some (T x)) → texts tx xs = some (joinT (xs.map T))
  | [], _ => rfl
  | [a], h => by
    show onO none (tx a) (fun t => cnd (nilB ([] : List DV)) (some t) _) = _
    rw [h a (List.mem_singleton.mpr rfl)]; rfl
  | a :: b :: r, h => by
    show onO none (tx a) (fun t => cnd (nilB (b :: r)) (some t) (onO none (texts tx (b :: r)) fun u => some (app t (44 :: 32 :: u)))) = _
    rw [h a (List.mem_cons_self ..), texts_ok fun x hx => h x (List.mem_cons_of_mem _ hx)]
    show some (app (T a) _) = _
    rw [app_eq]; rfl
theorem digs_len : ∀ (f n : Nat) (acc : List Nat), (digs f n acc).length ≤ f + acc.length
  | 0, n, acc => by show acc.length ≤ _; omega
  | f + 1, n, acc => by
    show (cnd (Nat.ble n 9) (Nat.add 48 n :: acc) (digs f (Nat.div n 10) (Nat.add 48 (Nat.mod n 10) :: acc))).length ≤ _
    cases Nat.ble n 9 with
    | true => show (Nat.add 48 n :: acc).length ≤ _; rw [List.length_cons]; omega
    | false =>
      have := digs_len f (Nat.div n 10) (Nat.add 48 (Nat.mod n 10) :: acc)
      rw [List.length_cons] at this
      show (digs f _ _).length ≤ _
      omega
theorem digs_okc : ∀ (f n : Nat) (acc : List Nat), okc acc → okc (digs f n acc)
  | 0, n, acc, h => h
  | f + 1, n, acc, h => by
    show okc (cnd (Nat.ble n 9) (Nat.add 48 n :: acc) (digs f (Nat.div n 10) (Nat.add 48 (Nat.mod n 10) :: acc)))
    cases e : Nat.ble n 9 with
    | true =>
      have := Nat.le_of_ble_eq_true e
      exact okc_cons (by show 48 + n < _; omega) h
    | false =>
      have : n % 10 < 10 := Nat.mod_lt _ (by decide)
      exact digs_okc f _ _ (okc_cons (by show 48 + n % 10 < _; omega) h)
/-- its text, that stays whatever is made -/
def Tex (n : Nat) (h : DH) (d : DV) (t : List Nat) (B : Nat) : Prop := ∀ h', Ext h h' → textD h' n d = some t ∧ t.length ≤ B ∧ okc t
section
variable {h h' : DH} {d : DV} {t : List Nat} {n B : Nat}
theorem Tex.ext (q : Tex n h d t B) (x : Ext h h') : Tex n h' d t B := fun h2 y => q h2 (x.trans y)
theorem textD_s (h : DH) (n : Nat) (d : DV) : textD h (n + 1) d = textStep h (textD h n) d := rfl
noncomputable def tN (c : Nat) : List Nat := intText (.ofNat c)
theorem txt_int {c : Nat} (hc : Nat.log2 c ≤ 1900) : Tex (n + 1) h (.int (.ofNat c)) (tN c) 600 := fun h' _ => by
  refine ⟨?_, digs_len 600 c [], digs_okc 600 c [] okc_nil⟩
  rw [textD_s]
  show cnd (Nat.ble (Nat.log2 c) 1900) (some (intText (.ofNat c))) none = _
  rw [Nat.ble_eq.mpr hc]; rfl
noncomputable def tB (b : Bool) : List Nat := cnd b [84, 114, 117, 101] [70, 97, 108, 115, 101]
theorem txt_bl {b : Bool} : Tex (n + 1) h (.bl b) (tB b) 5 := fun h' _ => by
  refine ⟨rfl, ?_, ?_⟩
  · cases b <;> decide
  · cases b <;> (unfold okc; decide)
def tTail : List DV → List Nat
  | [_] => [44, 41]
  | _ => [41]
theorem txt_tup {xs : List DV} {T : DV → List Nat} (hx : ∀ x ∈ xs, Tex n h x (T x) B) : Tex (n + 1) h (.tup xs) (40 :: (joinT (xs.map T) ++ tTail xs)) (xs.length * (B + 2) + 3) := fun h' y => by
  have e := texts_ok (tx := textD h' n) (T := T) (xs := xs) fun x hx' => (hx x hx' h' y).1
  have l := join_len (B := B) (ts := xs.map T) fun t ht => by
    obtain ⟨x, hx', rfl⟩ := List.mem_map.mp ht
    exact (hx x hx' h' y).2.1
  have o := join_okc (ts := xs.map T) fun t ht => by
    obtain ⟨x, hx', rfl⟩ := List.mem_map.mp ht
    exact (hx x hx' h' y).2.2
  have tl : (tTail xs).length ≤ 2 ∧ okc (tTail xs) := by
    have k1 : ([44, 41] : List Nat).length ≤ 2 ∧ okc [44, 41] := ⟨by decide, by unfold okc; decide⟩
    have k2 : ([41] : List Nat).length ≤ 2 ∧ okc [41] := ⟨by decide, by unfold okc; decide⟩
    match xs with
    | [] => exact k2
    | [_] => exact k1
    | _ :: _ :: _ => exact k2
  rw [List.length_map] at l
  refine ⟨?_, by rw [List.length_cons, List.length_append]; omega, okc_cons (by decide) (okc_app o tl.2)⟩
  rw [textD_s]
  show onO none (texts (textD h' n) xs) (fun t => some (40 :: app t (List.casesOn xs [41] fun _ r => cnd (nilB r) [44, 41] [41]))) = _
  rw [e]
  show some (40 :: app _ _) = _
  rw [app_eq]
  match xs with
  | [] => rfl
  | [_] => rfl
  | _ :: _ :: _ => rfl
theorem txt_lst {i : Nat} {xs : List DV} {T : DV → List Nat} (hi : i < h.n) (g : h.get i = some (.lst xs)) (hx : ∀ x ∈ xs, Tex n h x (T x) B) : Tex (n + 1) h (.ref i) (91 :: (joinT (xs.map T) ++ [93])) (xs.length * (B + 2) + 2) := fun h' y => by
  have e := texts_ok (tx := textD h' n) (T := T) (xs := xs) fun x hx' => (hx x hx' h' y).1
  have l := join_len (B := B) (ts := xs.map T) fun t ht => by
    obtain ⟨x, hx', rfl⟩ := List.mem_map.mp ht
    exact (hx x hx' h' y).2.1
  have o := join_okc (ts := xs.map T) fun t ht => by
    obtain ⟨x, hx', rfl⟩ := List.mem_map.mp ht
    exact (hx x hx' h' y).2.2
  rw [List.length_map] at l
  refine ⟨?_, by rw [List.length_cons, List.length_append, List.length_singleton]; omega, okc_cons (by decide) (okc_app o (by unfold okc; decide))⟩
  rw [textD_s]
  show obL none (h'.get i) (fun xs => onO none (texts (textD h' n) xs) fun t => some (91 :: app t [93])) = _
  rw [y.get hi g]
  show onO none (texts (textD h' n) xs) (fun t => some (91 :: app t [93])) = _
  rw [e]
  show some (91 :: app _ [93]) = _
  rw [app_eq]
/-- a word's text -/
noncomputable def tI : DV → List Nat
  | .int (.ofNat c) => tN c
  | _ => []
noncomputable def tW (w : List Nat) : List Nat := 40 :: (joinT ((w.map fun c => DV.int (.ofNat c)).map tI) ++ tTail (w.map fun c => DV.int (.ofNat c)))
theorem txt_wd {w : List Nat} (hw : wok 4 w) : Tex (n + 2) h (wd w) (tW w) (w.length * 602 + 3) := by
  have := txt_tup (n := n + 1) (h := h) (xs := w.map fun c => DV.int (.ofNat c)) (T := tI) (B := 600) fun x hx => by
    obtain ⟨c, hc, rfl⟩ := List.mem_map.mp hx
    refine txt_int ?_
    have h4 := hw c hc
    have : c < 2 ^ 2 := h4
    by_cases z : c = 0
    · subst z; decide
    · have := (Nat.log2_lt z).mpr this; omega
  rw [List.length_map] at this
  exact this
noncomputable def tWd (d : DV) : List Nat := match d with
  | .tup xs => 40 :: (joinT (xs.map tI) ++ tTail xs)
  | _ => []
theorem tWd_wd (w : List Nat) : tWd (wd w) = tW w := rfl
/-- the text of a list of words -/
noncomputable def tWs (ws : List (List Nat)) : List Nat := 91 :: (joinT ((ws.map wd).map tWd) ++ [93])
theorem txt_wds {i : Nat} {ws : List (List Nat)} {L : Nat} (hi : i < h.n) (g : h.get i = some (.lst (ws.map wd))) (hw : ∀ w ∈ ws, wok 4 w ∧ w.length ≤ L) : Tex (n + 3) h (.ref i) (tWs ws) (ws.length * (L * 602 + 5) + 2) := by
  have := txt_lst (n := n + 2) (T := tWd) (B := L * 602 + 3) hi g fun x hx => by
    obtain ⟨w, hw', rfl⟩ := List.mem_map.mp hx
    rw [tWd_wd]
    intro h' y
    obtain ⟨a, b, c⟩ := txt_wd (n := n) (h := h) (hw w hw').1 h' y
    exact ⟨a, Nat.le_trans b (by have := Nat.mul_le_mul_right 602 (hw w hw').2; omega), c⟩
  rw [List.length_map] at this
  exact this
/-- two things in a list -/
def t2 (a b : List Nat) : List Nat := 91 :: (joinT [a, b] ++ [93])
theorem txt_two {x y : DV} {a b : List Nat} (hx : Tex n h x a B) (hy : Tex n h y b B) : Tex (n + 1) (h.new (.lst [x, y])) (.ref h.n) (t2 a b) (2 * (B + 2) + 2) := fun h' z => by
  have x0 : Ext h h' := (Ext.new h _).trans z
  have ex := hx h' x0
  have ey := hy h' x0
  have l := join_len (B := B) (ts := [a, b]) fun t ht => by
    rcases List.mem_cons.mp ht with rfl | ht
    · exact ex.2.1
    · rw [List.mem_singleton.mp ht]; exact ey.2.1
  have o := join_okc (ts := [a, b]) fun t ht => by
    rcases List.mem_cons.mp ht with rfl | ht
    · exact ex.2.2
    · rw [List.mem_singleton.mp ht]; exact ey.2.2
  refine ⟨?_, by unfold t2; rw [List.length_cons, List.length_append, List.length_singleton]; simp only [List.length_cons, List.length_nil] at l; omega, okc_cons (by decide) (okc_app o (by unfold okc; decide))⟩
  rw [textD_s]
  show obL none (h'.get h.n) (fun xs => onO none (texts (textD h' n) xs) fun t => some (91 :: app t [93])) = _
  rw [z.get (Nat.lt_succ_self h.n) (get_new_same h _)]
  show onO none (onO none (textD h' n x) fun t => onO none (onO none (textD h' n y) fun t => some t) fun u => some (app t (44 :: 32 :: u))) (fun t => some (91 :: app t [93])) = _
  rw [ex.1, ey.1]
  show some (91 :: app (app a (44 :: 32 :: b)) [93]) = _
  rw [app_eq, app_eq]; rfl
theorem rep_l {i : Nat} {xs : List DV} (g : h.get i = some (.lst xs)) (q : Tex 40 h (.ref i) t B) (hB : B ≤ 16777216) : bRepr [.ref i] h = some (.str t, h) := by
  obtain ⟨a, b, _⟩ := q h (Ext.refl h)
  show onO none (obD (textD h eqF (.ref i)) (h.get i) fun kvs => cnd (nilB kvs) (some [123, 125]) none) (fun t => cnd (fits (lenN t)) (some (DV.str t, h)) none) = _
  rw [g]
  show onO none (textD h 40 (.ref i)) (fun t => cnd (fits (lenN t)) (some (DV.str t, h)) none) = _
  rw [a]
  show cnd (fits (lenN t)) (some (DV.str t, h)) none = _
  rw [lenN_eq, fits_of (by omega)]; rfl
theorem eq_str (o : okc t) : eqC (.str t) (.str t) h = .yes := by
  have dt : isData h eqF (.str t) = true := by
    show allL (fun c => Nat.ble (Nat.succ c) 1114112) t = true
    exact allL_of fun c hc => Nat.ble_eq.mpr (o c hc)
  show cnd (cnd (isData h eqF (.str t)) (isData h eqF (.str t)) false) (eqD h eqF (.str t) (.str t)) .un = _
  rw [dt]
  show ofB (natsEq t t) = _
  rw [natsEq_self]; rfl
end
section
variable {a b : Ex} {fr : Fr} {h : DH} {R : DH → Prop}
/-- what a list's text is -/
def RepL (h : DH) (d : DV) (t : List Nat) : Prop := ∃ i xs B, d = .ref i ∧ h.get i = some (.lst xs) ∧ Tex 40 h (.ref i) t B ∧ B ≤ 16777216
theorem ta_rep (ha : Ea a fr h (fun d h1 => ∃ t, RepL h1 d t ∧ Ea b fr h1 (fun d2 h2 => RepL h2 d2 t ∧ R h2))) : Ta (cTest (cCmp true eqC (cBc bRepr (cCons a cNil)) (cBc bRepr (cCons b cNil)))) fr h (fun q h' => q = false ∧ R h') := fun kx k hk => by
  show a fr h kx (fun x h => kh (bRepr [x] h) fun x h => b fr h kx fun y h => kh (bRepr [y] h) fun y h => ko (t3 true (eqC x y h)) h fun x h => onB false x fun b => k b h) = true
  refine ha _ _ fun d h1 ⟨t, ⟨i, xs, B, e, g, q, hB⟩, hb⟩ => ?_
  subst e
  rw [rep_l g q hB]
  show b fr h1 kx (fun y h => kh (bRepr [y] h) fun y h => ko (t3 true (eqC (.str t) y h)) h fun x h => onB false x fun b => k b h) = true
  refine hb _ _ fun d2 h2 ⟨⟨i2, xs2, B2, e2, g2, q2, hB2⟩, r⟩ => ?_
  subst e2
  rw [rep_l g2 q2 hB2]
  show ko (t3 true (eqC (.str t) (.str t) h2)) h2 (fun x h => onB false x fun b => k b h) = true
  rw [eq_str (q2 h2 (Ext.refl h2)).2.2]
  exact hk _ _ ⟨rfl, r⟩
end
end Dz

set_option Elab.async false
set_option linter.all false
set_option maxRecDepth 100000
set_option maxHeartbeats 4000000
/-! Words, by hand: the functions from outside; the laws' own words. -/
namespace Dz
open PySem L2
noncomputable def w__law_all : Sx := (sSeq (sAsg (gNm 2) (cLst (cCons (cTup cNil) cNil))) (sSeq (sFor (gNm 3) (iRng (cCons (cVar 1) cNil)) (sSeq (sAsg (gNm 4) (cLst cNil)) (sSeq (sFor (gNm 5) (iSeq (cVar 2)) (sExpr (cML mExtend (cVar 4) (cCons (cLc [6] (cBin opAdd (cVar 5) (cTup (cCons (cVar 6) cNil))) (gNm 6) (iRng (cCons (cVar 0) cNil))) cNil)))) (sAsg (gNm 2) (cVar 4))))) (sRet (cVar 2))))
noncomputable def w__law_common : Sx := (sSeq (sAsg (gNm 2) (cTup cNil)) (sSeq (sFor (gTup 2 (gCons (gNm 3) (gCons (gNm 4) gNil))) (iZip (cCons (cVar 0) (cCons (cVar 1) cNil))) (sSeq (sIf (cTest (cCmp true eqC (cVar 3) (cVar 4))) (sRet (cVar 2)) sNil) (sAsg (gNm 2) (cBin opAdd (cVar 2) (cTup (cCons (cVar 3) cNil)))))) (sRet (cVar 2))))
noncomputable def w__law_word (call : Call) (j__law_draw : Nat) : Sx := (sRet (cBc bTuple (cCons (cLc [3] (cCall call j__law_draw [.at_ 0, .at_ 1] (cCons (cVar 0) (cCons (cVar 1) cNil))) (gNm 3) (iRng (cCons (cCall call j__law_draw [.at_ 0, .at_ 1] (cCons (cVar 0) (cCons (cBin opAdd (cVar 2) (cCst (.int (.ofNat 1)))) cNil))) cNil))) cNil)))
section
variable {fns : Nat → FnD} {q j : Nat} {b : Call → Sx} {h : DH}
section
variable {call : Call} {fr : Fr} {s jz jw x z : Nat} {r : Sx} {R : Fr → DH → Prop} {P : DV → DH → Prop}
/-- the size is looked at -/
theorem sb_size (hz : KWsz call jz) (h1 : 2 ≤ s) (h2 : s ≤ 4) (e : nth fr z = some (some (.int (.ofNat s)))) (hr : Sb r fr h R P) : Sb (sSeq (sExpr (cCall call jz [.at_ 0] (cCons (cVar z) cNil))) r) fr h R P :=
  sb_sv2 (sv_expr (ev_call (evs_cons (ev_var e) evs_nil) rfl (hz s h h1 h2))) hr
/-- a word is looked at -/
theorem sb_word (hw : KWw call jw) {w : List Nat} (h1 : w.length ≤ 40) (h2 : wok s w) (e : nth fr z = some (some (.int (.ofNat s)))) (e2 : nth fr x = some (some (wd w))) (hr : ∀ h', Ext h h' → Sb r fr h' R P) : Sb (sSeq (sExpr (cCall call jw [.at_ 0, .at_ 1] (cCons (cVar z) (cCons (cVar x) cNil)))) r) fr h R P :=
  sb_ex (ea_cv (evs_cons (ev_var e) (evs_cons (ev_var e2) evs_nil)) rfl (hw s w h h1 h2)) fun d h' ⟨_, y⟩ => hr h' y
end
abbrev KIw2 (call : Call) (j : Nat) : Prop := ∀ (s : Nat) (w : List Nat) (h : DH), 2 ≤ s → s ≤ 4 → w.length ≤ 40 → wok s w → Ca call j [.int (.ofNat s), wd w] h (fun d h' => d = .bl true ∧ Ext h h')
theorem k_iw2 {jz jw : Nat} (hj : fns j = .body 2 [] 0 b) (hb : b = fun call => w_is_word call jz jw) (hz : KWsz (callK fns q) jz) (hw : KIsW (callK fns q) jw) : KIw2 (callK fns (q + 1)) j := fun s w h h1 h2 h3 h4 => by
  subst hb
  exact ca_sb hj rfl (sb_size hz h1 h2 rfl (sb_ret (ea_cv (evs_cons (ev_var rfl) (evs_cons (ev_var rfl) evs_nil)) rfl (hw s w h h3 h4))))
abbrev KDb (call : Call) (j : Nat) : Prop := ∀ (s : Nat) (u v : List Nat) (h : DH), 2 ≤ s → s ≤ 4 → u.length ≤ 40 → wok s u → v.length ≤ 40 → wok s v → Ca call j [.int (.ofNat s), wd u, wd v] h (fun d h' => d = .bl (beg u v) ∧ Ext h h')
theorem k_db {jz jw jb : Nat} (hj : fns j = .body 3 [] 0 b) (hb : b = fun call => w_does_begin call jz jw jb) (hz : KWsz (callK fns q) jz) (hw : KWw (callK fns q) jw) (hf : KBeg (callK fns q) jb) : KDb (callK fns (q + 1)) j := fun s u v h h1 h2 h3 h4 h5 h6 => by
  subst hb
  exact ca_sb hj rfl (sb_size hz h1 h2 rfl (sb_word hw h3 h4 rfl rfl fun h' x => sb_word hw h5 h6 rfl rfl fun h2 x2 => sb_ret (ea_ev (ev_call (evs_cons (ev_var rfl) (evs_cons (ev_var rfl) evs_nil)) rfl (hf u v h2)) ⟨rfl, x.trans x2⟩)))
abbrev KCb (call : Call) (j : Nat) : Prop := ∀ (s : Nat) (u v : List Nat) (h : DH), 2 ≤ s → s ≤ 4 → u.length ≤ 40 → wok s u → v.length ≤ 40 → wok s v → Ca call j [.int (.ofNat s), wd u, wd v] h (fun d h' => d = wd (comm u v) ∧ Ext h h')
theorem k_cb {jz jw jb : Nat} (hj : fns j = .body 3 [] 0 b) (hb : b = fun call => w_common_beginning call jz jw jb) (hz : KWsz (callK fns q) jz) (hw : KWw (callK fns q) jw) (hf : KComm (callK fns q) jb) : KCb (callK fns (q + 1)) j := fun s u v h h1 h2 h3 h4 h5 h6 => by
  subst hb
  exact ca_sb hj rfl (sb_size hz h1 h2 rfl (sb_word hw h3 h4 rfl rfl fun h' x => sb_word hw h5 h6 rfl rfl fun h2 x2 => sb_ret (ea_cv (evs_cons (ev_var rfl) (evs_cons (ev_var rfl) evs_nil)) rfl (ca_imp (hf u v h2 (by omega)) fun d h3 ⟨e1, e2⟩ => by subst e2; exact ⟨e1, x.trans x2⟩))))
abbrev KWn (call : Call) (j : Nat) : Prop := ∀ (s : Nat) (u : List Nat) (h : DH), 2 ≤ s → s ≤ 4 → u.length ≤ 40 → wok s u → Ca call j [.int (.ofNat s), wd u] h (fun d h' => d = .int (.ofNat (valN s u)) ∧ Ext h h')
theorem k_wn {jz jw jb : Nat} (hj : fns j = .body 2 [] 0 b) (hb : b = fun call => w_word_number call jz jw jb) (hz : KWsz (callK fns q) jz) (hw : KWw (callK fns q) jw) (hf : KNum (callK fns q) jb) : KWn (callK fns (q + 1)) j := fun s u h h1 h2 h3 h4 => by
  subst hb
  exact ca_sb hj rfl (sb_size hz h1 h2 rfl (sb_word hw h3 h4 rfl rfl fun h' x => sb_ret (ea_ev (ev_call (evs_cons (ev_var rfl) (evs_cons (ev_var rfl) evs_nil)) rfl (hf s u h' h2 (by omega) h4)) ⟨rfl, x⟩)))
abbrev KAp (call : Call) (j : Nat) : Prop := ∀ (s : Nat) (a : DV) (ws : List (List Nat)) (h : DH), 2 ≤ s → s ≤ 4 → Wds h a ws → ws.length ≤ 128 → (∀ w ∈ ws, w.length ≤ 40 ∧ wok s w) → Ca call j [.int (.ofNat s), a] h (fun d h' => (∃ t : Bool, d = .bl t ∧ (t = true ↔ Apart ws)) ∧ Ext h h')
theorem k_ap {jz jw jf : Nat} (hj : fns j = .body 2 [] 0 b) (hb : b = fun call => w_are_apart call jz jw jf) (hz : KWsz (callK fns q) jz) (hw : KWws (callK fns q) jw) (hf : KFc (callK fns q) jf) : KAp (callK fns (q + 1)) j := fun s a ws h h1 h2 hs h3 h4 => by
  subst hb
  refine ca_sb hj rfl (sb_size hz h1 h2 rfl (sb_ex (ea_cv (evs_cons (ev_var rfl) (evs_cons (ev_var rfl) evs_nil)) rfl (hw s a ws h hs h3 h4)) fun d h' ⟨_, x⟩ => sb_ret (ea_cmp (ea_cv (evs_cons (ev_var rfl) evs_nil) rfl (hf a ws h' (hs.ext x) (by omega))) fun d h2 ⟨p, x2⟩ => ea_ev ev_cst ?_)))
  rcases p with ⟨rfl, p⟩ | ⟨u, v, rfl, p⟩
  · exact ⟨true, rfl, ⟨true, rfl, fun _ => p, fun _ => rfl⟩, x.trans x2⟩
  · exact ⟨false, rfl, ⟨false, rfl, fun z => (by cases z), fun z => absurd z p⟩, x.trans x2⟩
abbrev KSp (call : Call) (j : Nat) : Prop := ∀ (s : Nat) (w : List Nat) (h : DH), 2 ≤ s → s ≤ 4 → w.length < 40 → wok s w → Ca call j [.int (.ofNat s), wd w] h (fun d h' => Made h h' d ((splitW s w).map wd))
theorem k_sp {jz jw jm js : Nat} {bs : Call → Sx} (hj : fns j = .body 2 [] 0 b) (hb : b = fun call => w_split call jz jw jm js) (hz : KWsz (callK fns (q + 1)) jz) (hw : KWw (callK fns (q + 1)) jw) (hm : KMost (callK fns (q + 1)) jm) (hs : fns js = .body 2 [] 1 bs) (hbs : bs = fun _ => bdSplit) : KSp (callK fns (q + 2)) j := fun s w h h1 h2 h3 h4 => by
  subst hb
  refine ca_sb hj rfl (sb_size hz h1 h2 rfl (sb_word hw (by omega) h4 rfl rfl fun h' x => sb_sv2 (sv_expr (ev_call (evs_cons ev_cst (evs_cons ev_cst (evs_cons (ev_bin (ev_bc (evs_cons (ev_var rfl) evs_nil) (lenT_ok (xs := w.map fun c => DV.int (.ofNat c)))) ev_cst op_addN) evs_nil))) rfl (hm _ _ 40 h' (by rw [List.length_map]; show w.length + 1 ≤ 40; omega)))) (sb_ret (ea_cv (evs_cons (ev_var rfl) (evs_cons (ev_var rfl) evs_nil)) rfl (ca_imp (ca_split (q := q) (b := bs) hs hbs (by omega) (by omega)) fun d h2 ⟨e1, e2⟩ => ?_)))))
  subst e1 e2
  exact Made.new x _
theorem num_lt {s l n : Nat} (h2 : s ≤ 4) (hl : l ≤ 40) (hn : n < s ^ l) : n < 2 ^ 300 := Nat.lt_trans hn (pow_lt3 h2 (by omega))
abbrev KWa (call : Call) (j : Nat) : Prop := ∀ (s l n : Nat) (h : DH), 2 ≤ s → s ≤ 4 → l ≤ 40 → n < s ^ l → Cv call j [.int (.ofNat s), .int (.ofNat l), .int (.ofNat n)] h (wd (digN s l n)) h
theorem geN {m n : Nat} : geC (.int (.ofNat m)) (.int (.ofNat n)) h = ofB (decide (n ≤ m)) := by
  rw [ge_I]; congr 1; rw [decide_eq_decide]; exact Int.ofNat_le
theorem k_wa {jz jm jc jt jb : Nat} (hj : fns j = .body 3 [] 0 b) (hb : b = fun call => w_word_at call jz jm jc jt jb) (hz : KWsz (callK fns q) jz) (hm : KMany (callK fns q) jm) (hc : KCnt (callK fns q) jc) (ht : KTimes (callK fns q) jt) (hf : KBy (callK fns q) jb) : KWa (callK fns (q + 1)) j := fun s l n h h1 h2 h3 h4 => by
  subst hb
  have t1 : Tv (cTest (cCall (callK fns q) jc [.at_ 0] (cCons (cVar 2) cNil))) (plainFr 0 [.int (.ofNat s), .int (.ofNat l), .int (.ofNat n)]) h true h := tv_of (ev_call (evs_cons (ev_var rfl) evs_nil) rfl (hc n h))
  have t2 := tv_of (ev_cmp (neg := false) (ev_var (i := 2) (fr := plainFr 0 [.int (.ofNat s), .int (.ofNat l), .int (.ofNat n)]) (h := h) (d := .int (.ofNat n)) rfl) (ev_call (pm := [.at_ 0, .at_ 1]) (evs_cons (ev_var (i := 0) rfl) (evs_cons (ev_var (i := 1) rfl) evs_nil)) rfl (ht s l h h2 (by omega))) (geN (h := h)))
  rw [decide_eq_false (by omega)] at t2
  refine cv_body hj rfl (sr_seq (sv_expr (ev_call (evs_cons (ev_var rfl) evs_nil) rfl (hz s h h1 h2))) (sr_seq (sv_expr (ev_call (evs_cons (ev_var rfl) (evs_cons ev_cst evs_nil)) rfl (hm l 40 0 h (by omega) h3))) (sr_seq (sv_iff (fun kx k => ?_) sv_nil) (sr_ret (ev_call (evs_cons (ev_var rfl) (evs_cons (ev_var rfl) (evs_cons (ev_var rfl) evs_nil))) rfl (hf s l n h (by omega) h2 (by omega) (num_lt h2 h3 h4)))))))
  show (cTest _) _ h kx _ = _
  rw [t1]
  show (cTest (cCmp false geC (cVar 2) (cCall (callK fns q) jt [.at_ 0, .at_ 1] (cCons (cVar 0) (cCons (cVar 1) cNil))))) (plainFr 0 [.int (.ofNat s), .int (.ofNat l), .int (.ofNat n)]) h kx k = _
  rw [t2]; rfl
/-- all words of a length -/
def allW (s l : Nat) : List (List Nat) := (List.range (s ^ l)).map (digN s l)
theorem allW_len (s l : Nat) : (allW s l).length = s ^ l := by unfold allW; rw [List.length_map, List.length_range]
theorem allW_ok {s l : Nat} (hs : 0 < s) : ∀ w ∈ allW s l, wok s w ∧ w.length = l := fun w hw => by
  obtain ⟨n, _, rfl⟩ := List.mem_map.mp hw
  exact ⟨dig_ok hs l n, dig_len s l n⟩
abbrev KAw (call : Call) (j : Nat) : Prop := ∀ (s l : Nat) (h : DH), 2 ≤ s → s ≤ 4 → l ≤ 40 → s ^ l ≤ 400 → Ca call j [.int (.ofNat s), .int (.ofNat l)] h (fun d h' => Made h h' d ((allW s l).map wd))
theorem k_aw {jz jm jt jo jb : Nat} (hj : fns j = .body 2 [] 2 b) (hb : b = fun call => w_all_words call jz jm jt jo jb) (hz : KWsz (callK fns q) jz) (hm : KMany (callK fns q) jm) (ht : KTimes (callK fns q) jt) (ho : KMost (callK fns q) jo) (hf : KBy (callK fns q) jb) : KAw (callK fns (q + 1)) j := fun s l h h1 h2 h3 h4 => by
  subst hb
  refine ca_sb hj rfl (sb_size hz h1 h2 rfl (sb_sv2 (sv_expr (ev_call (evs_cons (ev_var rfl) (evs_cons ev_cst evs_nil)) rfl (hm l 40 0 h (by omega) h3))) (sb_sv2 (sv_asg (ev_call (evs_cons (ev_var rfl) (evs_cons (ev_var rfl) evs_nil)) rfl (ht s l h h2 (by omega))) go_nm) (sb_sv2 (sv_expr (ev_call (evs_cons ev_cst (evs_cons ev_cst (evs_cons (ev_var rfl) evs_nil))) rfl (ho _ (s ^ l) 400 h h4)))
    (sb_ret (ea_lc (n := s ^ l) (h1 := h) (q := .rng 0 (s ^ l)) (Inv := fun i h' acc => h' = h ∧ acc.reverse = ((List.range i).map (digN s l)).map wd) (iv_rng1 (evs_cons (ev_var rfl) evs_nil) (by omega)) (by omega) ⟨rfl, rfl⟩ (fun _ _ _ => rng_end) (fun h' acc ⟨e1, e2⟩ => ?_) fun i hi h' acc ⟨e1, e2⟩ => ?_))))))
  · subst e1
    have := Made.new (Ext.refl h') acc.reverse
    rw [e2] at this
    rw [e2]
    exact this
  · subst e1
    refine ⟨_, _, _, rng0 hi, go_nm, ea_ev (ev_call (evs_cons (ev_var rfl) (evs_cons (ev_var rfl) (evs_cons (ev_var rfl) evs_nil))) rfl (hf s l i h' (by omega) h2 (by omega) (num_lt h2 h3 hi))) ⟨rfl, ?_⟩⟩
    rw [List.reverse_cons, e2, List.range_succ, List.map_append, List.map_append]; rfl
/-! ### the laws' words -/
theorem ea_splitLc {fr : Fr} {s x l z : Nat} {w : List Nat} (hs : s ≤ 1000) (hw : w.length ≤ 1000) (e : nth fr z = some (some (.int (.ofNat s)))) (hx : ∀ c : DV, nth (setAt (setAt fr l none) l (some c)) x = some (some (wd w))) (hl : ∀ c : DV, nth (setAt (setAt fr l none) l (some c)) l = some (some c)) :
    Ea (cLc [l] (cBin opAdd (cVar x) (cTup (cCons (cVar l) cNil))) (gNm l) (iRng (cCons (cVar z) cNil))) fr h (fun d h' => d = .ref h.n ∧ h' = h.new (.lst ((splitW s w).map wd))) := by
  refine ea_lc (n := s) (h1 := h) (q := .rng 0 s) (Inv := fun i h' acc => h' = h ∧ acc.reverse = ((splitW i w).map wd)) (iv_rng1 (evs_cons (ev_var e) evs_nil) (by omega)) (by omega) ⟨rfl, rfl⟩ (fun _ _ _ => rng_end) (fun h' acc ⟨e1, e2⟩ => ⟨by rw [e1], by rw [e1, e2]⟩) fun i hi h' acc ⟨e1, e2⟩ => ?_
  subst e1
  refine ⟨_, _, _, rng0 hi, go_nm, ea_ev (ev_bin (ev_var (hx _)) (ev_tup (evs_cons (ev_var (hl _)) evs_nil)) (addT_ok (xs := w.map fun c => DV.int (.ofNat c)) (by rw [List.length_map]; show _ + 1 ≤ _; omega))) ⟨rfl, ?_⟩⟩
  rw [List.reverse_cons, e2]
  unfold splitW
  rw [List.range_succ, List.map_append, List.map_append]
  show _ ++ [_] = _ ++ [wd (w ++ [i])]
  unfold wd
  rw [List.map_append]; rfl
theorem allW_succ (s l : Nat) : allW s (l + 1) = (allW s l).flatMap (splitW s) := by
  have key : ∀ n, (List.range (n * s)).map (digN s (l + 1)) = ((List.range n).map (digN s l)).flatMap (splitW s) := fun n => by
    induction n with
    | zero => simp
    | succ n ih =>
      rw [Nat.succ_mul, List.range_add, List.map_append, ih, List.range_succ, List.map_append, List.flatMap_append]
      congr 1
      rw [List.map_map, List.map_singleton, List.flatMap_singleton]
      unfold splitW
      refine List.map_congr_left fun c hc => ?_
      have hc := List.mem_range.mp hc
      show digN s (l + 1) (n * s + c) = _
      rw [digN, Nat.mul_comm, Nat.mul_add_div (by omega), Nat.div_eq_of_lt hc, Nat.add_zero, Nat.mul_add_mod, Nat.mod_eq_of_lt hc]
  unfold allW
  rw [Nat.pow_succ, key]
theorem flat_len (s : Nat) : ∀ ws : List (List Nat), (ws.flatMap (splitW s)).length = ws.length * s
  | [] => by simp
  | w :: r => by rw [List.flatMap_cons, List.length_append, flat_len s r, List.length_cons, Nat.succ_mul]; unfold splitW; simp; omega
abbrev KLall (call : Call) (j : Nat) : Prop := ∀ (s l : Nat) (h : DH), 1 ≤ s → s ≤ 4 → l ≤ 100 → s ^ l ≤ 5000 → Ca call j [.int (.ofNat s), .int (.ofNat l)] h (fun d h' => Made h h' d ((allW s l).map wd))
theorem pow_le_of {s i l : Nat} (hs : 1 ≤ s) (h : i ≤ l) {B : Nat} (hB : s ^ l ≤ B) : s ^ i ≤ B := Nat.le_trans (Nat.pow_le_pow_right hs h) hB
theorem k_lall (hj : fns j = .body 2 [] 5 b) (hb : b = fun _ => w__law_all) : KLall (callK fns (q + 1)) j := fun s l h h0 h1 h2 h3 => by
  subst hb
  refine ca_sb hj rfl (sb_sv2 (sv_asg (ev_lst (evs_cons (ev_tup evs_nil) evs_nil)) go_nm) ?_)
  refine sb_seq (R1 := fun fr h' => ∃ f, nth fr 2 = some (some (.ref f)) ∧ h.n ≤ f ∧ f < h'.n ∧ h'.get f = some (.lst ((allW s l).map wd)) ∧ Ext h h') (sb_for (n := l) (q := .rng 0 l) (Inv := fun i fr h' => ∃ f o3 o4 o5 o6, fr = [some (.int (.ofNat s)), some (.int (.ofNat l)), some (.ref f), o3, o4, o5, o6] ∧ h.n ≤ f ∧ f < h'.n ∧ h'.get f = some (.lst ((allW s i).map wd)) ∧ Ext h h')
    (iv_rng1 (evs_cons (ev_var rfl) evs_nil) (by omega)) (by omega) ⟨h.n, _, _, _, _, rfl, Nat.le_refl _, Nat.lt_succ_self _, get_new_same _ _, Ext.new _ _⟩ (fun _ _ _ => rng_end) (fun i hi fr h' ⟨f, o3, o4, o5, o6, e1, f1, f2, g, x⟩ => ?_) fun fr h' ⟨f, o3, o4, o5, o6, e1, f1, f2, g, x⟩ => ⟨f, by rw [e1]; rfl, f1, f2, g, x⟩) fun fr h' ⟨f, e, f1, f2, g, x⟩ => sb_ret (ea_ev (ev_var e) ⟨f, rfl, f1, f2, g, x⟩)
  subst e1
  refine ⟨_, _, _, rng0 hi, go_nm, sb_sv2 (sv_asg (ev_lst evs_nil) go_nm) ?_⟩
  have gf : (h'.new (.lst [])).get f = some (.lst ((allW s i).map wd)) := by rw [get_new_ne _ _ (by omega)]; exact g
  have hi1 : s ^ i ≤ 5000 := pow_le_of h0 (by omega) h3
  have hi2 : s ^ (i + 1) ≤ 5000 := pow_le_of h0 (by omega) h3
  refine sb_seq (R1 := fun fr h2 => ∃ o3 o5 o6, fr = [some (.int (.ofNat s)), some (.int (.ofNat l)), some (.ref f), o3, some (.ref h'.n), o5, o6] ∧ h'.n < h2.n ∧ h2.get h'.n = some (.lst ((allW s (i + 1)).map wd)) ∧ Ext h h2) (sb_for (n := s ^ i) (q := .sq (.ref f)) (Inv := fun k fr h2 => ∃ o3 o5 o6, fr = [some (.int (.ofNat s)), some (.int (.ofNat l)), some (.ref f), o3, some (.ref h'.n), o5, o6] ∧ h'.n < h2.n ∧ h2.get h'.n = some (.lst ((((allW s i).take k).flatMap (splitW s)).map wd)) ∧ h2.get f = some (.lst ((allW s i).map wd)) ∧ Ext h h2)
    (iv_sqL (ev_var rfl) gf) (by omega) ⟨_, _, _, rfl, Nat.lt_succ_self _, get_new_same _ _, gf, x.trans (Ext.new _ _)⟩ (fun fr h2 ⟨_, _, _, _, _, _, g2, _⟩ => it_lE g2 (by rw [List.length_map, allW_len]; omega)) (fun k hk fr h2 ⟨o3, o5, o6, e1, a1, a2, a3, a4⟩ => ?_) fun fr h2 ⟨o3, o5, o6, e1, a1, a2, a3, a4⟩ => ⟨_, _, _, e1, a1, by rw [allW_succ]; rw [List.take_of_length_le (by rw [allW_len]; omega)] at a2; exact a2, a4⟩) fun fr h2 ⟨o3, o5, o6, e1, a1, a2, a3⟩ => ?_
  · subst e1
    have hk' : k < (allW s i).length := by rw [allW_len]; exact hk
    have wk := allW_ok (s := s) (l := i) (by omega) _ (List.getElem_mem hk')
    refine ⟨_, _, _, it_l a3 (wds_get hk'), go_nm, sb_sa (sa_expr (P := fun d h3 => h3 = (h2.new (.lst ((splitW s (allW s i)[k]).map wd))).put h'.n (.lst ((((allW s i).take k).flatMap (splitW s)).map wd ++ (splitW s (allW s i)[k]).map wd))) (ea_mL (ea_ev (ev_var rfl) ⟨h'.n, _, rfl, a2, eas_cons (ea_splitLc (w := (allW s i)[k]) (by omega) (by rw [wk.2]; omega) rfl (fun c => rfl) (fun c => rfl)) fun d h3 ⟨e1, e2⟩ => ?_⟩)) fun d h3 e => ?_)⟩
    rotate_left
    · subst e1 e2
      refine eas_nil ⟨_, _, extend_ok (by rw [get_new_ne _ _ (by omega)]; exact a2) (get_new_same _ _) ?_, rfl⟩
      rw [List.length_map, List.length_map, flat_len, List.length_take, allW_len]
      unfold splitW
      rw [List.length_map, List.length_range]
      have : min k (s ^ i) * s ≤ s ^ i * s := Nat.mul_le_mul_right s (by omega)
      have e2 : s ^ (i + 1) = s ^ i * s := Nat.pow_succ ..
      rw [← e2] at this
      omega
    · subst e
      refine ⟨_, _, _, rfl, by rw [put_n, new_n]; omega, ?_, ?_, (a4.trans (Ext.new _ _)).put (by have := x.le; omega) _⟩
      · rw [get_put_same, List.take_succ_eq_append_getElem hk', List.flatMap_append, List.map_append, List.flatMap_singleton]
      · rw [get_put_ne _ _ (by omega), get_new_ne _ _ (by omega)]; exact a3
  · subst e1
    exact sb_sv (sv_asg (ev_var rfl) go_nm) ⟨h'.n, _, _, _, _, rfl, x.le, a1, a2, a3⟩
abbrev KLcomm (call : Call) (j : Nat) : Prop := ∀ (u v : List Nat) (h : DH), u.length ≤ 1000 → Ca call j [wd u, wd v] h (fun d h' => d = wd (comm u v) ∧ h' = h)
theorem comm_snoc : ∀ {n : Nat} {u v : List Nat} (hu : n < u.length) (hv : n < v.length), (∀ i (hu : i < u.length) (hv : i < v.length), i < n → u[i] = v[i]) → u[n] ≠ v[n] → comm u v = u.take n := fun hu hv h z => (comm_take (by omega) (by omega) h (.inr (.inr ⟨hu, hv, z⟩))).symm
theorem k_lcomm (hj : fns j = .body 2 [] 3 b) (hb : b = fun _ => w__law_common) : KLcomm (callK fns (q + 1)) j := fun u v h hl => by
  subst hb
  refine ca_sb hj rfl (sb_sv2 (sv_asg (ev_tup evs_nil) go_nm) ?_)
  refine sb_seq (R1 := fun fr h' => nth fr 2 = some (some (wd (comm u v))) ∧ h' = h) (sb_for (n := min u.length v.length) (q := .zp (wd u) (wd v)) (Inv := fun n fr h' => (∃ o3 o4, fr = [some (wd u), some (wd v), some (wd (u.take n)), o3, o4]) ∧ h' = h ∧ ∀ i (hu : i < u.length) (hv : i < v.length), i < n → u[i] = v[i])
    (fun kx k => rfl) (by omega) ⟨⟨_, _, rfl⟩, rfl, fun i _ _ z => absurd z (Nat.not_lt_zero _)⟩ (fun fr h' _ => ?_) (fun n hn fr h' ⟨⟨o3, o4, e1⟩, e2, iv⟩ => ?_) fun fr h' ⟨⟨o3, o4, e1⟩, e2, iv⟩ => ⟨by rw [e1, ← comm_take (by omega) (by omega) iv (by omega)]; rfl, e2⟩) fun fr h' ⟨e1, e2⟩ => sb_ret (ea_ev (ev_var e1) ⟨rfl, e2⟩)
  · show some (onO none (nth (u.map fun c => DV.int (.ofNat c)) (min u.length v.length)) fun x => onO none (nth (v.map fun c => DV.int (.ofNat c)) (min u.length v.length)) fun y => some (DV.tup [x, y])) = _
    rw [nth_eq, nth_eq]
    by_cases z : u.length ≤ v.length
    · rw [List.getElem?_eq_none (by rw [List.length_map]; omega)]; rfl
    · rw [List.getElem?_eq_none (l := v.map _) (by rw [List.length_map]; omega)]
      cases (u.map fun c => DV.int (.ofNat c))[min u.length v.length]? <;> rfl
  · subst e1 e2
    have hu : n < u.length := by omega
    have hv : n < v.length := by omega
    refine ⟨.tup [.int (.ofNat u[n]), .int (.ofNat v[n])], _, _, ?_, go_tup rfl (gos_cons go_nm (gos_cons go_nm gos_nil)), ?_⟩
    · show some (onO none (nth (u.map fun c => DV.int (.ofNat c)) n) fun x => onO none (nth (v.map fun c => DV.int (.ofNat c)) n) fun y => some (DV.tup [x, y])) = _
      rw [nth_eq, nth_eq, wd_get hu, wd_get hv]; rfl
    · refine sb_seq (R1 := fun fr h2 => u[n] = v[n] ∧ h2 = h' ∧ fr = [some (wd u), some (wd v), some (wd (u.take n)), some (.int (.ofNat u[n])), some (.int (.ofNat v[n]))]) (sb_if (R1 := fun c h2 => c = (!decide (u[n] = v[n])) ∧ h2 = h') (ta_cmp (ev_var rfl) (ev_var rfl) eqN_ ⟨by cases decide (u[n] = v[n]) <;> rfl, rfl⟩) (fun h2 ⟨c1, c2⟩ => ?_) fun h2 ⟨c1, c2⟩ => sb_nil ⟨?_, c2, rfl⟩) fun fr h2 ⟨c1, c2, c3⟩ => ?_
      · subst c2
        have z : u[n] ≠ v[n] := by
          intro z; rw [decide_eq_true z] at c1; cases c1
        refine sb_ret (ea_ev (ev_var rfl) ⟨?_, rfl⟩)
        rw [comm_snoc hu hv iv z]
      · cases hd : decide (u[n] = v[n]) with
        | true => exact of_decide_eq_true hd
        | false => rw [hd] at c1; cases c1
      · subst c2 c3
        have es := addT_ok (h := h2) (xs := (u.take n).map fun c => DV.int (.ofNat c)) (ys := [.int (.ofNat u[n])]) (by rw [List.length_map, List.length_take]; show _ + 1 ≤ _; omega)
        refine sb_sv (sv_asg (ev_bin (ev_var rfl) (ev_tup (evs_cons (ev_var rfl) evs_nil)) es) go_nm) ⟨⟨some (.int (.ofNat u[n])), some (.int (.ofNat v[n])), ?_⟩, rfl, fun i a1 a2 a3 => ?_⟩
        · rw [List.take_succ_eq_append_getElem hu]
          unfold wd
          rw [List.map_append]; rfl
        · by_cases y : i = n
          · subst y; exact c1
          · exact iv i a1 a2 (by omega)
/-- a drawn word -/
theorem k_lword {jd : Nat} (hj : fns j = .body 3 [] 1 b) (hb : b = fun call => w__law_word call jd) (hd : fns jd = .nat drawN) {s m : Nat} (h1 : 1 ≤ s) (h2 : s ≤ 4) (hm : m ≤ 1000) (hp : h.get 0 = some .pot) (hn : 0 < h.n) :
    Ca (callK fns (q + 2)) j [.ref 0, .int (.ofNat s), .int (.ofNat m)] h (fun d h' => ∃ w, d = wd w ∧ w.length ≤ m ∧ wok s w ∧ Ext h h') := by
  subst hb
  refine ca_sb hj rfl (sb_ret (ea_bc (eas_cons (P := fun d h2 => ∃ w, Sq h2 d (w.map fun c => DV.int (.ofNat c)) ∧ w.length ≤ m ∧ wok s w ∧ Ext h h2) (ea_lcA (J := fun q h2 => ∃ z, z ≤ m ∧ q = .rng 0 z ∧ h2 = h) (ia_rng (ea_imp (ea_draw (n := m + 1) (h' := h) hd rfl hp (ev_bin (ev_var rfl) ev_cst op_addN) (by omega) (by omega)) fun d h2 ⟨e1, z, e2, e3⟩ => ⟨z, e2, by omega, z, by omega, rfl, e1⟩)) fun q2 h2 ⟨z, hz, e1, e2⟩ => ?_) fun d h2 ⟨w, w1, w2, w3, w4⟩ => ?_)))
  · subst e1 e2
    refine ⟨z, fun i h3 acc => ∃ w : List Nat, acc.reverse = (w.map fun c => DV.int (.ofNat c)) ∧ w.length = i ∧ wok s w ∧ Ext h2 h3, by omega, ⟨[], rfl, rfl, wok_nil, Ext.refl _⟩, fun _ _ _ => rng_end, fun i hi h3 acc ⟨w, e1, e2, e3, x⟩ => ⟨_, _, _, rng0 hi, go_nm, ea_imp (ea_draw (n := s) (h' := h3) hd rfl (x.get hn hp) (ev_var rfl) (by omega) (by omega)) fun d h4 ⟨e4, c, e5, e6⟩ => ?_⟩, fun h3 acc ⟨w, e1, e2, e3, x⟩ => ⟨w, by rw [← e1]; exact Sq.new _ _, by omega, e3, x.trans (Ext.new _ _)⟩⟩
    subst e4 e5
    exact ⟨w ++ [c], by rw [List.reverse_cons, e1, List.map_append]; rfl, by rw [List.length_append, e2]; rfl, wok_app e3 fun y hy => by rw [List.mem_singleton.mp hy]; exact e6, x⟩
  · refine eas_nil ⟨_, _, ?_, w, rfl, w2, w3, w4⟩
    show onO none (seqOf d h2) (fun xs => some (DV.tup xs, h2)) = _
    rw [w1.seq]; rfl
end
end Dz

set_option Elab.async false
set_option linter.all false
set_option maxRecDepth 100000
set_option maxHeartbeats 4000000
namespace L12
open Dz
noncomputable section
def owns (k : Nat) : List Nat := cond (Nat.blt k 4) (cond (Nat.blt k 2) (cond (Nat.blt k 1) ([0]) ([1])) (cond (Nat.blt k 3) ([2, 0]) ([3, 0]))) (cond (Nat.blt k 6) (cond (Nat.blt k 5) ([4, 0]) ([5, 0])) (cond (Nat.blt k 7) ([6, 0]) ([7, 1])))
def bases (k : Nat) : List Nat := cond (Nat.blt k 4) (cond (Nat.blt k 2) (cond (Nat.blt k 1) ([0]) ([3])) (cond (Nat.blt k 3) ([0]) ([0]))) (cond (Nat.blt k 6) (cond (Nat.blt k 5) ([0]) ([0])) (cond (Nat.blt k 7) ([0]) ([3])))
def fld (k : Nat) : List Nat := cond (Nat.blt k 4) (cond (Nat.blt k 2) (cond (Nat.blt k 1) ([]) ([])) (cond (Nat.blt k 3) ([0]) ([0]))) (cond (Nat.blt k 6) (cond (Nat.blt k 5) ([0]) ([0])) (cond (Nat.blt k 7) ([0]) ([1, 2])))
def isOwn (d c : Nat) : Bool := (owns c).any (Nat.beq d)
def isTy (b a : Ty) : Bool := match a, b with
  | .bool, .int => true
  | .own c, .own d => isOwn d c
  | .own c, .bexc d => (bases c).any (Nat.beq d)
  | a, b => tyEq a b
def anyTy (ts : List (Ty → Bool)) (a : Ty) : Bool := ts.any fun t => t a
def b_is_integer : Call → Sx := fun call => (sRet (cAnd (cIsin (isTy .int) (cVar 0)) (cNot (cIsin (isTy .bool) (cVar 0)))))
def f_is_integer : FnD := .body 1 [] 0 b_is_integer
def b_is_count : Call → Sx := fun call => (sRet (cAnd (cCall call 0 [.at_ 0] (cCons (cVar 0) cNil)) (cCmp false geC (cVar 0) (cCst (.int (.ofNat 0))))))
def f_is_count : FnD := .body 1 [] 0 b_is_count
def b_is_list : Call → Sx := fun call => (sRet (cIsin (anyTy [isTy .list, isTy .tuple]) (cVar 0)))
def f_is_list : FnD := .body 1 [] 0 b_is_list
def b_want_many : Call → Sx := fun call => (sIf (tOr (tNot (cTest (cCall call 1 [.at_ 0] (cCons (cVar 0) cNil)))) (tNot (cTest (cChain false false leC leC (cVar 2) (cVar 0) (cVar 1))))) sNo sNil)
def f_want_many : FnD := .body 3 [] 0 b_want_many
def b_want_at_most : Call → Sx := fun call => (sIf (cTest (cCmp false gtC (cVar 2) (cVar 1))) sNo sNil)
def f_want_at_most : FnD := .body 3 [] 0 b_want_at_most
def b_is_size_value : Call → Sx := fun call => (sRet (cAnd (cCall call 0 [.at_ 0] (cCons (cVar 0) cNil)) (cChain false false leC leC (cCst (.int (.ofNat 2))) (cVar 0) (cCst (.int (.ofNat 4))))))
def f_is_size_value : FnD := .body 1 [] 0 b_is_size_value
def b_want_size : Call → Sx := fun call => (sIf (tNot (cTest (cCall call 5 [.at_ 0] (cCons (cVar 0) cNil)))) sNo sNil)
def f_want_size : FnD := .body 1 [] 0 b_want_size
def b_is_word_value : Call → Sx := fun call => (sSeq (sIf (tOr (tNot (cTest (cIsin (isTy .tuple) (cVar 1)))) (cTest (cCmp false gtC (cBc bLen (cCons (cVar 1) cNil)) (cCst (.int (.ofNat 40)))))) (sRet (cCst (.bl false))) sNil) (sRet (cBc bAll (cCons (cLc [2] (cAnd (cCall call 0 [.at_ 0] (cCons (cVar 2) cNil)) (cChain false false leC ltC (cCst (.int (.ofNat 0))) (cVar 2) (cVar 0))) (gNm 2) (iSeq (cVar 1))) cNil))))
def f_is_word_value : FnD := .body 2 [] 1 b_is_word_value
def b_want_word : Call → Sx := fun call => (sIf (tNot (cTest (cCall call 7 [.at_ 0, .at_ 1] (cCons (cVar 0) (cCons (cVar 1) cNil))))) sNo sNil)
def f_want_word : FnD := .body 2 [] 0 b_want_word
def b_are_words_value : Call → Sx := fun call => (sRet (cAnd (cCall call 2 [.at_ 0] (cCons (cVar 1) cNil)) (cAnd (cCmp false leC (cBc bLen (cCons (cVar 1) cNil)) (cCst (.int (.ofNat 128)))) (cBc bAll (cCons (cLc [2] (cCall call 7 [.at_ 0, .at_ 1] (cCons (cVar 0) (cCons (cVar 2) cNil))) (gNm 2) (iSeq (cVar 1))) cNil)))))
def f_are_words_value : FnD := .body 2 [] 1 b_are_words_value
def b_want_words : Call → Sx := fun call => (sIf (tNot (cTest (cCall call 9 [.at_ 0, .at_ 1] (cCons (cVar 0) (cCons (cVar 1) cNil))))) sNo sNil)
def f_want_words : FnD := .body 2 [] 0 b_want_words
def b_begins : Call → Sx := fun call => (sRet (cCmp false eqC (cSl (cVar 1) oNo (oEx (cBc bLen (cCons (cVar 0) cNil)))) (cVar 0)))
def f_begins : FnD := .body 2 [] 0 b_begins
def b_two_clash : Call → Sx := fun call => (sRet (cOr (cCall call 11 [.at_ 0, .at_ 1] (cCons (cVar 0) (cCons (cVar 1) cNil))) (cCall call 11 [.at_ 0, .at_ 1] (cCons (cVar 1) (cCons (cVar 0) cNil)))))
def f_two_clash : FnD := .body 2 [] 0 b_two_clash
def b_split_of : Call → Sx := fun call => (sRet (cLc [2] (cBin opAdd (cVar 1) (cTup (cCons (cVar 2) cNil))) (gNm 2) (iRng (cCons (cVar 0) cNil))))
def f_split_of : FnD := .body 2 [] 1 b_split_of
def b_common_of : Call → Sx := fun call => (sSeq (sAsg (gNm 2) (cCst (.int (.ofNat 0)))) (sSeq (sWhile (tAnd (cTest (cCmp false ltC (cVar 2) (cBc bMin (cCons (cBc bLen (cCons (cVar 0) cNil)) (cCons (cBc bLen (cCons (cVar 1) cNil)) cNil))))) (cTest (cCmp false eqC (cIx (cVar 0) (cVar 2)) (cIx (cVar 1) (cVar 2))))) (sAsg (gNm 2) (cBin opAdd (cVar 2) (cCst (.int (.ofNat 1)))))) (sRet (cSl (cVar 0) oNo (oEx (cVar 2))))))
def f_common_of : FnD := .body 2 [] 1 b_common_of
def b_times : Call → Sx := fun call => (sSeq (sAsg (gNm 2) (cCst (.int (.ofNat 1)))) (sSeq (sFor (gNm 3) (iRng (cCons (cVar 1) cNil)) (sAsg (gNm 2) (cBin opMul (cVar 2) (cVar 0)))) (sRet (cVar 2))))
def f_times : FnD := .body 2 [] 2 b_times
def b_first_clash : Call → Sx := fun call => (sSeq (sFor (gTup 2 (gCons (gNm 1) (gCons (gNm 2) gNil))) (iEnum (cCons (cVar 0) cNil)) (sSeq (sAsg (gNm 3) (cLcC [4] (cVar 4) (gNm 4) (iRng (cCons (cBin opAdd (cVar 1) (cCst (.int (.ofNat 1)))) (cCons (cBc bLen (cCons (cVar 0) cNil)) cNil))) (cTest (cCall call 12 [.at_ 0, .at_ 1] (cCons (cVar 2) (cCons (cIx (cVar 0) (cVar 4)) cNil)))))) (sIf (cTest (cCmp true eqC (cVar 3) (cLst cNil))) (sRet (cTup (cCons (cVar 1) (cCons (cIx (cVar 3) (cCst (.int (.ofNat 0)))) cNil)))) sNil))) (sRet (cCst .non)))
def f_first_clash : FnD := .body 1 [] 4 b_first_clash
def b_number_of : Call → Sx := fun call => (sSeq (sAsg (gNm 2) (cCst (.int (.ofNat 0)))) (sSeq (sFor (gNm 3) (iSeq (cVar 1)) (sAsg (gNm 2) (cBin opAdd (cBin opMul (cVar 2) (cVar 0)) (cVar 3)))) (sRet (cVar 2))))
def f_number_of : FnD := .body 2 [] 2 b_number_of
def b_word_by : Call → Sx := fun call => (sSeq (sPar2 3 4 (cCons (cTup cNil) (cCons (cVar 2) cNil))) (sSeq (sFor (gNm 5) (iRng (cCons (cVar 1) cNil)) (sSeq (sAsg (gNm 3) (cBin opAdd (cTup (cCons (cBin0 (opInt subI) (cVar 4) (cBin opMul (cVar 0) (cBin0 (opInt fdivI) (cVar 4) (cVar 0)))) cNil)) (cVar 3))) (sAsg (gNm 4) (cBin0 (opInt fdivI) (cVar 4) (cVar 0))))) (sRet (cVar 3))))
def f_word_by : FnD := .body 3 [] 3 b_word_by
def b_is_word : Call → Sx := fun call => (sSeq (sExpr (cCall call 6 [.at_ 0] (cCons (cVar 0) cNil))) (sRet (cCall call 7 [.at_ 0, .at_ 1] (cCons (cVar 0) (cCons (cVar 1) cNil)))))
def f_is_word : FnD := .body 2 [] 0 b_is_word
def b_does_begin : Call → Sx := fun call => (sSeq (sExpr (cCall call 6 [.at_ 0] (cCons (cVar 0) cNil))) (sSeq (sExpr (cCall call 8 [.at_ 0, .at_ 1] (cCons (cVar 0) (cCons (cVar 1) cNil)))) (sSeq (sExpr (cCall call 8 [.at_ 0, .at_ 1] (cCons (cVar 0) (cCons (cVar 2) cNil)))) (sRet (cCall call 11 [.at_ 0, .at_ 1] (cCons (cVar 1) (cCons (cVar 2) cNil)))))))
def f_does_begin : FnD := .body 3 [] 0 b_does_begin
def b_are_apart : Call → Sx := fun call => (sSeq (sExpr (cCall call 6 [.at_ 0] (cCons (cVar 0) cNil))) (sSeq (sExpr (cCall call 10 [.at_ 0, .at_ 1] (cCons (cVar 0) (cCons (cVar 1) cNil)))) (sRet (cCmp false isC (cCall call 16 [.at_ 0] (cCons (cVar 1) cNil)) (cCst .non)))))
def f_are_apart : FnD := .body 2 [] 0 b_are_apart
def b_split : Call → Sx := fun call => (sSeq (sExpr (cCall call 6 [.at_ 0] (cCons (cVar 0) cNil))) (sSeq (sExpr (cCall call 8 [.at_ 0, .at_ 1] (cCons (cVar 0) (cCons (cVar 1) cNil)))) (sSeq (sExpr (cCall call 4 [.at_ 0, .at_ 1, .at_ 2] (cCons (cCst (.str [108, 101, 116, 116, 101, 114, 115])) (cCons (cCst (.int (.ofNat 40))) (cCons (cBin opAdd (cBc bLen (cCons (cVar 1) cNil)) (cCst (.int (.ofNat 1)))) cNil))))) (sRet (cCall call 13 [.at_ 0, .at_ 1] (cCons (cVar 0) (cCons (cVar 1) cNil)))))))
def f_split : FnD := .body 2 [] 0 b_split
def b_common_beginning : Call → Sx := fun call => (sSeq (sExpr (cCall call 6 [.at_ 0] (cCons (cVar 0) cNil))) (sSeq (sExpr (cCall call 8 [.at_ 0, .at_ 1] (cCons (cVar 0) (cCons (cVar 1) cNil)))) (sSeq (sExpr (cCall call 8 [.at_ 0, .at_ 1] (cCons (cVar 0) (cCons (cVar 2) cNil)))) (sRet (cCall call 14 [.at_ 0, .at_ 1] (cCons (cVar 1) (cCons (cVar 2) cNil)))))))
def f_common_beginning : FnD := .body 3 [] 0 b_common_beginning
def b_word_number : Call → Sx := fun call => (sSeq (sExpr (cCall call 6 [.at_ 0] (cCons (cVar 0) cNil))) (sSeq (sExpr (cCall call 8 [.at_ 0, .at_ 1] (cCons (cVar 0) (cCons (cVar 1) cNil)))) (sRet (cCall call 17 [.at_ 0, .at_ 1] (cCons (cVar 0) (cCons (cVar 1) cNil))))))
def f_word_number : FnD := .body 2 [] 0 b_word_number
def b_word_at : Call → Sx := fun call => (sSeq (sExpr (cCall call 6 [.at_ 0] (cCons (cVar 0) cNil))) (sSeq (sExpr (cCall call 3 [.at_ 0, .at_ 1, .dv (.int (.ofNat 0))] (cCons (cVar 1) (cCons (cCst (.int (.ofNat 40))) cNil)))) (sSeq (sIf (tOr (tNot (cTest (cCall call 1 [.at_ 0] (cCons (cVar 2) cNil)))) (cTest (cCmp false geC (cVar 2) (cCall call 15 [.at_ 0, .at_ 1] (cCons (cVar 0) (cCons (cVar 1) cNil)))))) sNo sNil) (sRet (cCall call 18 [.at_ 0, .at_ 1, .at_ 2] (cCons (cVar 0) (cCons (cVar 1) (cCons (cVar 2) cNil))))))))
def f_word_at : FnD := .body 3 [] 0 b_word_at
def b_all_words : Call → Sx := fun call => (sSeq (sExpr (cCall call 6 [.at_ 0] (cCons (cVar 0) cNil))) (sSeq (sExpr (cCall call 3 [.at_ 0, .at_ 1, .dv (.int (.ofNat 0))] (cCons (cVar 1) (cCons (cCst (.int (.ofNat 40))) cNil)))) (sSeq (sAsg (gNm 2) (cCall call 15 [.at_ 0, .at_ 1] (cCons (cVar 0) (cCons (cVar 1) cNil)))) (sSeq (sExpr (cCall call 4 [.at_ 0, .at_ 1, .at_ 2] (cCons (cCst (.str [119, 111, 114, 100, 115])) (cCons (cCst (.int (.ofNat 400))) (cCons (cVar 2) cNil))))) (sRet (cLc [3] (cCall call 18 [.at_ 0, .at_ 1, .at_ 2] (cCons (cVar 0) (cCons (cVar 1) (cCons (cVar 3) cNil)))) (gNm 3) (iRng (cCons (cVar 2) cNil))))))))
def f_all_words : FnD := .body 2 [] 2 b_all_words
def b__law_pot : Call → Sx := fun call => (sSeq (sAsg (gNm 2) (cBin opAdd (cBin opMul (cCst (.int (.ofNat 1697))) (cVar 1)) (cCst (.int (.ofNat 10163))))) (sSeq (sIf (cTest (cCmp false ltC (cVar 1) (cLenS 0))) (sAsg (gNm 2) (cBc bAbs (cCons (cIxS 0 (cVar 1)) cNil))) sNil) (sRet (cLst (cCons (cBc bMax (cCons (cCst (.int (.ofNat 0))) (cCons (cBin0 (opInt subI) (cVar 2) (cBin0 (opInt powI) (cCst (.int (.ofNat 10))) (cCst (.int (.ofNat 18))))) cNil))) (cCons (cBin opAdd (cBin0 (opInt modI) (cBc bInt (cCons (cBin opAdd (cBin opAdd (cBin opMul (cBin0 (opInt modI) (cBc bInt (cCons (cVar 2) cNil)) (cCst (.int (.ofNat 2147483549)))) (cCst (.int (.ofNat 40014)))) (cBin opMul (cCst (.int (.ofNat 10163))) (cVar 1))) (cCst (.int (.ofNat 61)))) cNil)) (cCst (.int (.ofNat 2147483563)))) (cCst (.int (.ofNat 1)))) cNil))))))
def f__law_pot : FnD := .nat potN
def b__law_draw : Call → Sx := fun call => (sSeq (sIf (cTest (cCmp false gtC (cIx (cVar 0) (cCst (.int (.ofNat 0)))) (cCst (.int (.ofNat 0))))) (sSeq (sAsg (gTup 2 (gCons (gIx (cVar 0) (cCst (.int (.ofNat 0)))) (gCons (gNm 2) gNil))) (cBc bDivmod (cCons (cIx (cVar 0) (cCst (.int (.ofNat 0)))) (cCons (cVar 1) cNil)))) (sRet (cVar 2))) sNil) (sSeq (sAsg (gIx (cVar 0) (cCst (.int (.ofNat 1)))) (cBin0 (opInt modI) (cBc bInt (cCons (cBin opAdd (cBin opMul (cIx (cVar 0) (cCst (.int (.ofNat 1)))) (cCst (.int (.ofNat 39373)))) (cCst (.int (.ofNat 1709)))) cNil)) (cCst (.int (.ofNat 2147483587))))) (sRet (cBin0 (opInt modI) (cBc bInt (cCons (cBin0 (opInt fdivI) (cBin0 (opInt modI) (cBc bInt (cCons (cBin opMul (cIx (cVar 0) (cCst (.int (.ofNat 1)))) (cIx (cVar 0) (cCst (.int (.ofNat 1))))) cNil)) (cCst (.int (.ofNat 2147483563)))) (cCst (.int (.ofNat 19)))) cNil)) (cVar 1)))))
def f__law_draw : FnD := .nat drawN
def b__law_pick : Call → Sx := fun call => (sRet (cIx (cVar 1) (cCall call 28 [.at_ 0, .at_ 1] (cCons (cVar 0) (cCons (cBc bLen (cCons (cVar 1) cNil)) cNil)))))
def f__law_pick : FnD := .body 2 [] 0 b__law_pick
def b__law_mixed : Call → Sx := fun call => (sSeq (sPar2 2 3 (cCons (cBc bList (cCons (cVar 1) cNil)) (cCons (cLst cNil) cNil))) (sSeq (sWhile (cTest (cCmp true eqC (cVar 2) (cLst cNil))) (sExpr (cML mAppend (cVar 3) (cCons (cMt mPopL mPopD (cVar 2) (cCons (cCall call 28 [.at_ 0, .at_ 1] (cCons (cVar 0) (cCons (cBc bLen (cCons (cVar 2) cNil)) cNil))) cNil)) cNil)))) (sRet (cVar 3))))
def f__law_mixed : FnD := .body 2 [] 2 b__law_mixed
def b__law_word : Call → Sx := fun call => (sRet (cBc bTuple (cCons (cLc [3] (cCall call 28 [.at_ 0, .at_ 1] (cCons (cVar 0) (cCons (cVar 1) cNil))) (gNm 3) (iRng (cCons (cCall call 28 [.at_ 0, .at_ 1] (cCons (cVar 0) (cCons (cBin opAdd (cVar 2) (cCst (.int (.ofNat 1)))) cNil))) cNil))) cNil)))
def f__law_word : FnD := .body 3 [] 1 b__law_word
def b__law_begins : Call → Sx := fun call => (sRet (cCmp false eqC (cSl (cVar 1) oNo (oEx (cBc bLen (cCons (cVar 0) cNil)))) (cVar 0)))
def f__law_begins : FnD := .body 2 [] 0 b__law_begins
def b__law_clash : Call → Sx := fun call => (sRet (cOr (cCall call 32 [.at_ 0, .at_ 1] (cCons (cVar 0) (cCons (cVar 1) cNil))) (cCall call 32 [.at_ 0, .at_ 1] (cCons (cVar 1) (cCons (cVar 0) cNil)))))
def f__law_clash : FnD := .body 2 [] 0 b__law_clash
def b__law_full : Call → Sx := fun call => (sSeq (sAsg (gNm 4) (cLst (cCons (cTup cNil) cNil))) (sSeq (sFor (gNm 5) (iRng (cCons (cCall call 28 [.at_ 0, .at_ 1] (cCons (cVar 0) (cCons (cBin opAdd (cVar 2) (cCst (.int (.ofNat 1)))) cNil))) cNil)) (sSeq (sAsg (gNm 6) (cCall call 29 [.at_ 0, .at_ 1] (cCons (cVar 0) (cCons (cVar 4) cNil)))) (sIf (cTest (cCmp false ltC (cBc bLen (cCons (cVar 6) cNil)) (cVar 3))) (sAsg (gNm 4) (cBin opAdd (cLcC [7] (cVar 7) (gNm 7) (iSeq (cVar 4)) (cTest (cCmp true eqC (cVar 7) (cVar 6)))) (cLc [8] (cBin opAdd (cVar 6) (cTup (cCons (cVar 8) cNil))) (gNm 8) (iRng (cCons (cVar 1) cNil))))) sNil))) (sRet (cBc bSortI (cCons (cVar 4) cNil)))))
def f__law_full : FnD := .body 4 [] 5 b__law_full
def b__law_cut : Call → Sx := fun call => (sSeq (sAsg (gTup 2 (gCons (gNm 4) (gCons (gNm 5) gNil))) (cTup (cCons (cCall call 34 [.at_ 0, .at_ 1, .at_ 2, .at_ 3] (cCons (cVar 0) (cCons (cVar 1) (cCons (cVar 2) (cCons (cVar 3) cNil))))) (cCons (cBin opAdd (cCst (.int (.ofNat 1))) (cCall call 28 [.at_ 0, .at_ 1] (cCons (cVar 0) (cCons (cCst (.int (.ofNat 4))) cNil)))) cNil)))) (sRet (cLcC [6] (cVar 6) (gNm 6) (iSeq (cVar 4)) (tOr (cTest (cCmp false eqC (cVar 5) (cCst (.int (.ofNat 4))))) (cTest (cCmp false ltC (cCall call 28 [.at_ 0, .at_ 1] (cCons (cVar 0) (cCons (cCst (.int (.ofNat 4))) cNil))) (cVar 5)))))))
def f__law_cut : FnD := .body 4 [] 3 b__law_cut
def b__law_all : Call → Sx := fun call => (sSeq (sAsg (gNm 2) (cLst (cCons (cTup cNil) cNil))) (sSeq (sFor (gNm 3) (iRng (cCons (cVar 1) cNil)) (sSeq (sAsg (gNm 4) (cLst cNil)) (sSeq (sFor (gNm 5) (iSeq (cVar 2)) (sExpr (cML mExtend (cVar 4) (cCons (cLc [6] (cBin opAdd (cVar 5) (cTup (cCons (cVar 6) cNil))) (gNm 6) (iRng (cCons (cVar 0) cNil))) cNil)))) (sAsg (gNm 2) (cVar 4))))) (sRet (cVar 2))))
def f__law_all : FnD := .body 2 [] 5 b__law_all
def b__law_least : Call → Sx := fun call => (sSeq (sAsg (gTup 2 (gCons (gNm 2) (gCons (gNm 3) gNil))) (cTup (cCons (cBc bList (cCons (cVar 1) cNil)) (cCons (cCst (.bl true)) cNil)))) (sSeq (sWhile (cTest (cVar 3)) (sSeq (sAsg (gNm 3) (cCst (.bl false))) (sFor (gNm 4) (iSeq (cBc bSortI (cCons (cVar 2) cNil))) (sSeq (sAsg (gNm 5) (cLc [6] (cBin opAdd (cSl (cVar 4) oNo (oEx (cNeg (cCst (.int (.ofNat 1)))))) (cTup (cCons (cVar 6) cNil))) (gNm 6) (iRng (cCons (cVar 0) cNil)))) (sIf (tAnd (tNot (cTest (cVar 3))) (tAnd (cTest (cCmp true eqC (cVar 4) (cTup cNil))) (cTest (cBc bAll (cCons (cLc [7] (cCmp false hasD (cVar 7) (cVar 2)) (gNm 7) (iSeq (cVar 5))) cNil))))) (sSeq (sAsg (gNm 2) (cBin opAdd (cLcC [7] (cVar 7) (gNm 7) (iSeq (cVar 2)) (cTest (cCmp true hasD (cVar 7) (cVar 5)))) (cLst (cCons (cSl (cVar 4) oNo (oEx (cNeg (cCst (.int (.ofNat 1)))))) cNil)))) (sAsg (gNm 3) (cCst (.bl true)))) sNil))))) (sRet (cBc bSortI (cCons (cVar 2) cNil)))))
def f__law_least : FnD := .body 2 [] 6 b__law_least
def b__law_common : Call → Sx := fun call => (sSeq (sAsg (gNm 2) (cTup cNil)) (sSeq (sFor (gTup 2 (gCons (gNm 3) (gCons (gNm 4) gNil))) (iZip (cCons (cVar 0) (cCons (cVar 1) cNil))) (sSeq (sIf (cTest (cCmp true eqC (cVar 3) (cVar 4))) (sRet (cVar 2)) sNil) (sAsg (gNm 2) (cBin opAdd (cVar 2) (cTup (cCons (cVar 3) cNil)))))) (sRet (cVar 2))))
def f__law_common : FnD := .body 2 [] 3 b__law_common
def b__law_two_right : Call → Sx := fun call => (sSeq (sPar2 3 4 (cCons (cBc bRepr (cCons (cLst (cCons (cVar 1) (cCons (cVar 2) cNil))) cNil)) (cCons (cCall call 38 [.at_ 0, .at_ 1] (cCons (cVar 1) (cCons (cVar 2) cNil))) cNil))) (sSeq (sIf (cTest (cCmp true eqC (cBc bRepr (cCons (cLst (cCons (cCall call 23 [.at_ 0, .at_ 1, .at_ 2] (cCons (cVar 0) (cCons (cVar 1) (cCons (cVar 2) cNil)))) (cCons (cCall call 23 [.at_ 2, .at_ 1, .at_ 0] (cCons (cVar 1) (cCons (cVar 2) (cCons (cVar 0) cNil)))) cNil))) cNil)) (cBc bRepr (cCons (cLst (cCons (cVar 4) (cCons (cVar 4) cNil))) cNil)))) (sRet (cCst (.bl false))) sNil) (sSeq (sAsg (gNm 5) (cAnd (cCmp false leC (cBc bLen (cCons (cVar 1) cNil)) (cBc bLen (cCons (cVar 2) cNil))) (cCmp false eqC (cSl (cVar 2) oNo (oEx (cBc bLen (cCons (cVar 1) cNil)))) (cVar 1)))) (sSeq (sIf (cTest (cCmp true eqC (cBc bRepr (cCons (cLst (cCons (cCall call 20 [.at_ 0, .at_ 1, .at_ 2] (cCons (cVar 0) (cCons (cVar 1) (cCons (cVar 2) cNil)))) (cCons (cCall call 20 [.at_ 2, .at_ 1, .at_ 0] (cCons (cVar 2) (cCons (cVar 1) (cCons (cVar 0) cNil)))) cNil))) cNil)) (cBc bRepr (cCons (cLst (cCons (cVar 5) (cCons (cVar 5) cNil))) cNil)))) (sRet (cCst (.bl false))) sNil) (sSeq (sAsg (gNm 6) (cOr (cVar 5) (cCall call 20 [.at_ 0, .at_ 1, .at_ 2] (cCons (cVar 0) (cCons (cVar 2) (cCons (cVar 1) cNil)))))) (sSeq (sIf (tOr (cTest (cCmp false eqC (cCall call 21 [.at_ 0, .at_ 1] (cCons (cVar 0) (cCons (cLst (cCons (cVar 1) (cCons (cVar 2) cNil))) cNil))) (cVar 6))) (tOr (cTest (cCmp true eqC (cCmp false eqC (cVar 4) (cVar 1)) (cVar 5))) (cTest (cCmp true eqC (cBc bRepr (cCons (cLst (cCons (cVar 1) (cCons (cVar 2) cNil))) cNil)) (cVar 3))))) (sRet (cCst (.bl false))) sNil) (sRet (cCmp false eqC (cCall call 21 [.at_ 1, .at_ 0] (cCons (cTup (cCons (cVar 2) (cCons (cVar 1) cNil))) (cCons (cVar 0) cNil))) (cNot (cVar 6))))))))))
def f__law_two_right : FnD := .body 3 [] 4 b__law_two_right
def b__law_numbers_right : Call → Sx := fun call => (sSeq (sAsg (gNm 2) (cCall call 28 [.at_ 0, .at_ 1] (cCons (cVar 0) (cCons (cBin opAdd (cIx (cLst (cCons (cCst (.int (.ofNat 8))) (cCons (cCst (.int (.ofNat 5))) (cCons (cCst (.int (.ofNat 4))) cNil)))) (cBin0 (opInt subI) (cVar 1) (cCst (.int (.ofNat 2))))) (cCst (.int (.ofNat 1)))) cNil)))) (sSeq (sAsg (gNm 3) (cCall call 36 [.at_ 0, .at_ 1] (cCons (cVar 1) (cCons (cVar 2) cNil)))) (sSeq (sAsg (gNm 4) (cCall call 26 [.at_ 0, .at_ 1] (cCons (cVar 1) (cCons (cVar 2) cNil)))) (sSeq (sIf (cTest (cCmp true eqC (cBc bRepr (cCons (cLst (cCons (cVar 4) (cCons (cCall call 26 [.at_ 1, .at_ 0] (cCons (cVar 2) (cCons (cVar 1) cNil))) cNil))) cNil)) (cBc bRepr (cCons (cLst (cCons (cVar 3) (cCons (cVar 3) cNil))) cNil)))) (sRet (cCst (.bl false))) sNil) (sSeq (sExpr (cML mAppend (cVar 4) (cCons (cCst .non) cNil))) (sSeq (sIf (cTest (cCmp true eqC (cBc bRepr (cCons (cCall call 26 [.at_ 0, .at_ 1] (cCons (cVar 1) (cCons (cVar 2) cNil))) cNil)) (cBc bRepr (cCons (cVar 3) cNil)))) (sRet (cCst (.bl false))) sNil) (sSeq (sFor (gNm 5) (iRng (cCons (cCst (.int (.ofNat 6))) cNil)) (sSeq (sAsg (gNm 6) (cCall call 28 [.at_ 0, .at_ 1] (cCons (cVar 0) (cCons (cBc bLen (cCons (cVar 3) cNil)) cNil)))) (sSeq (sAsg (gNm 7) (cIx (cVar 3) (cVar 6))) (sSeq (sIf (cTest (cCmp true eqC (cBc bRepr (cCons (cLst (cCons (cCall call 25 [.at_ 0, .at_ 1, .at_ 2] (cCons (cVar 1) (cCons (cVar 2) (cCons (cVar 6) cNil)))) (cCons (cCall call 25 [.at_ 2, .at_ 1, .at_ 0] (cCons (cVar 6) (cCons (cVar 2) (cCons (cVar 1) cNil)))) cNil))) cNil)) (cBc bRepr (cCons (cLst (cCons (cVar 7) (cCons (cVar 7) cNil))) cNil)))) (sRet (cCst (.bl false))) sNil) (sSeq (sIf (cTest (cCmp true eqC (cBc bRepr (cCons (cLst (cCons (cCall call 24 [.at_ 0, .at_ 1] (cCons (cVar 1) (cCons (cVar 7) cNil))) (cCons (cCall call 24 [.at_ 1, .at_ 0] (cCons (cVar 7) (cCons (cVar 1) cNil))) cNil))) cNil)) (cBc bRepr (cCons (cLst (cCons (cVar 6) (cCons (cVar 6) cNil))) cNil)))) (sRet (cCst (.bl false))) sNil) (sSeq (sAsg (gNm 8) (cCall call 31 [.at_ 0, .at_ 1, .at_ 2] (cCons (cVar 0) (cCons (cVar 1) (cCons (cCst (.int (.ofNat 5))) cNil))))) (sSeq (sAsg (gNm 9) (cCall call 24 [.at_ 0, .at_ 1] (cCons (cVar 1) (cCons (cBin opAdd (cVar 7) (cVar 8)) cNil)))) (sIf (tOr (cTest (cCmp true eqC (cVar 9) (cBin opAdd (cBin opMul (cVar 6) (cBc bLen (cCons (cCall call 36 [.at_ 0, .at_ 1] (cCons (cVar 1) (cCons (cBc bLen (cCons (cVar 8) cNil)) cNil))) cNil))) (cCall call 24 [.at_ 0, .at_ 1] (cCons (cVar 1) (cCons (cVar 8) cNil)))))) (cTest (cCmp true eqC (cCall call 25 [.at_ 0, .at_ 1, .at_ 2] (cCons (cVar 1) (cCons (cBin opAdd (cVar 2) (cBc bLen (cCons (cVar 8) cNil))) (cCons (cVar 9) cNil)))) (cBin opAdd (cVar 7) (cVar 8))))) (sRet (cCst (.bl false))) sNil)))))))) (sRet (cCst (.bl true))))))))))
def f__law_numbers_right : FnD := .body 2 [] 8 b__law_numbers_right
def q__law_right : Call → Sx := fun call => (sAsg (gNm 1) (cBin opAdd (cCst (.int (.ofNat 2))) (cCall call 28 [.at_ 0, .at_ 1] (cCons (cVar 0) (cCons (cCst (.int (.ofNat 3))) cNil)))))
def r__law_right : Call → Sx := fun call => (sSeq (sAsg (gNm 2) (cBin opAdd (cLc [3] (cCall call 31 [.at_ 0, .at_ 1, .at_ 2] (cCons (cVar 0) (cCons (cVar 1) (cCons (cCst (.int (.ofNat 8))) cNil)))) (gNm 3) (iRng (cCons (cCst (.int (.ofNat 5))) cNil))) (cLst (cCons (cTup cNil) cNil)))) (sSeq (sExpr (cML mAppend (cVar 2) (cCons (cBin opAdd (cIx (cVar 2) (cCst (.int (.ofNat 0)))) (cCall call 31 [.at_ 0, .at_ 1, .at_ 2] (cCons (cVar 0) (cCons (cVar 1) (cCons (cCst (.int (.ofNat 3))) cNil))))) cNil))) (sSeq (sFor (gNm 4) (iSeq (cVar 2)) (sSeq (sIf (tOr (tNot (cTest (cBc bAll (cCons (cLc [5] (cCall call 39 [.at_ 0, .at_ 1, .at_ 2] (cCons (cVar 1) (cCons (cVar 4) (cCons (cVar 5) cNil)))) (gNm 5) (iSeq (cVar 2))) cNil)))) (tNot (cTest (cCall call 19 [.at_ 0, .at_ 1] (cCons (cVar 1) (cCons (cVar 4) cNil)))))) (sRet (cCst (.bl false))) sNil) (sSeq (sAsg (gNm 6) (cLc [7] (cBin opAdd (cVar 4) (cTup (cCons (cVar 7) cNil))) (gNm 7) (iRng (cCons (cVar 1) cNil)))) (sSeq (sAsg (gNm 8) (cCall call 22 [.at_ 0, .at_ 1] (cCons (cVar 1) (cCons (cVar 4) cNil)))) (sSeq (sIf (tOr (cTest (cCmp true eqC (cBc bRepr (cCons (cLst (cCons (cVar 8) (cCons (cCall call 22 [.at_ 1, .at_ 0] (cCons (cVar 4) (cCons (cVar 1) cNil))) cNil))) cNil)) (cBc bRepr (cCons (cLst (cCons (cVar 6) (cCons (cVar 6) cNil))) cNil)))) (cTest (cCmp true isC (cCall call 21 [.at_ 0, .at_ 1] (cCons (cVar 1) (cCons (cVar 8) cNil))) (cCst (.bl true))))) (sRet (cCst (.bl false))) sNil) (sSeq (sExpr (cML mAppend (cVar 8) (cCons (cCst .non) cNil))) (sIf (cTest (cCmp true eqC (cBc bRepr (cCons (cCall call 22 [.at_ 0, .at_ 1] (cCons (cVar 1) (cCons (cVar 4) cNil))) cNil)) (cBc bRepr (cCons (cVar 6) cNil)))) (sRet (cCst (.bl false))) sNil))))))) (sSeq (sAsg (gNm 9) (cSl (cVar 2) oNo (oEx (cCst (.int (.ofNat 3)))))) (sSeq (sAsg (gNm 6) (cNot (cBc bAny (cCons (cLc [11] (cBc bAny (cCons (cLc [10] (cCall call 33 [.at_ 0, .at_ 1] (cCons (cIx (cVar 9) (cVar 11)) (cCons (cVar 10) cNil))) (gNm 10) (iSeq (cSl (cVar 9) (oEx (cBin opAdd (cVar 11) (cCst (.int (.ofNat 1))))) oNo))) cNil)) (gNm 11) (iRng (cCons (cCst (.int (.ofNat 3))) cNil))) cNil)))) (sSeq (sIf (tOr (cTest (cCmp true eqC (cCall call 21 [.at_ 0, .at_ 1] (cCons (cVar 1) (cCons (cVar 9) cNil))) (cVar 6))) (tNot (cTest (cCall call 40 [.at_ 0, .at_ 1] (cCons (cVar 0) (cCons (cVar 1) cNil)))))) (sRet (cCst (.bl false))) sNil) (sSeq (sAsg (gNm 12) (cBc bTuple (cCons (cLc [7] (cCall call 28 [.at_ 0, .at_ 1] (cCons (cVar 0) (cCons (cVar 1) cNil))) (gNm 7) (iRng (cCons (cCst (.int (.ofNat 40))) cNil))) cNil))) (sSeq (sAsg (gNm 13) (cCall call 24 [.at_ 0, .at_ 1] (cCons (cVar 1) (cCons (cVar 12) cNil)))) (sRet (cAnd (cCmp false eqC (cCall call 25 [.at_ 0, .at_ 1, .at_ 2] (cCons (cVar 1) (cCons (cCst (.int (.ofNat 40))) (cCons (cVar 13) cNil)))) (cVar 12)) (cAnd (cCmp false eqC (cCall call 23 [.at_ 0, .at_ 1, .at_ 2] (cCons (cVar 1) (cCons (cVar 12) (cCons (cSl (cVar 12) oNo (oEx (cCst (.int (.ofNat 17))))) cNil)))) (cSl (cVar 12) oNo (oEx (cCst (.int (.ofNat 17)))))) (cCmp false isC (cCall call 20 [.at_ 0, .at_ 1, .at_ 2] (cCons (cVar 1) (cCons (cVar 12) (cCons (cVar 12) cNil)))) (cCst (.bl true))))))))))))))
def b__law_right : Call → Sx := fun call => (sSeq (q__law_right call) (r__law_right call))
def f__law_right : FnD := .body 1 [] 13 b__law_right
def b_law : Call → Sx := fun call => (sRet (cBc bAll (cCons (cLc [1] (cCall call 41 [.at_ 0] (cCons (cCall call 27 [.at_ 0, .at_ 1] (cCons (cVar 0) (cCons (cVar 1) cNil))) cNil)) (gNm 1) (iRng (cCons (cBc bMax (cCons (cCst (.int (.ofNat 1))) (cCons (cBc bMin (cCons (cCst (.int (.ofNat 3))) (cCons (cLenS 0) cNil))) cNil))) cNil))) cNil)))
def f_law : FnD := .body 1 [] 1 b_law
def fns (k : Nat) : FnD := cond (Nat.blt k 21) (cond (Nat.blt k 10) (cond (Nat.blt k 5) (cond (Nat.blt k 2) (cond (Nat.blt k 1) (f_is_integer) (f_is_count)) (cond (Nat.blt k 3) (f_is_list) (cond (Nat.blt k 4) (f_want_many) (f_want_at_most)))) (cond (Nat.blt k 7) (cond (Nat.blt k 6) (f_is_size_value) (f_want_size)) (cond (Nat.blt k 8) (f_is_word_value) (cond (Nat.blt k 9) (f_want_word) (f_are_words_value))))) (cond (Nat.blt k 15) (cond (Nat.blt k 12) (cond (Nat.blt k 11) (f_want_words) (f_begins)) (cond (Nat.blt k 13) (f_two_clash) (cond (Nat.blt k 14) (f_split_of) (f_common_of)))) (cond (Nat.blt k 18) (cond (Nat.blt k 16) (f_times) (cond (Nat.blt k 17) (f_first_clash) (f_number_of))) (cond (Nat.blt k 19) (f_word_by) (cond (Nat.blt k 20) (f_is_word) (f_does_begin)))))) (cond (Nat.blt k 32) (cond (Nat.blt k 26) (cond (Nat.blt k 23) (cond (Nat.blt k 22) (f_are_apart) (f_split)) (cond (Nat.blt k 24) (f_common_beginning) (cond (Nat.blt k 25) (f_word_number) (f_word_at)))) (cond (Nat.blt k 29) (cond (Nat.blt k 27) (f_all_words) (cond (Nat.blt k 28) (f__law_pot) (f__law_draw))) (cond (Nat.blt k 30) (f__law_pick) (cond (Nat.blt k 31) (f__law_mixed) (f__law_word))))) (cond (Nat.blt k 37) (cond (Nat.blt k 34) (cond (Nat.blt k 33) (f__law_begins) (f__law_clash)) (cond (Nat.blt k 35) (f__law_full) (cond (Nat.blt k 36) (f__law_cut) (f__law_all)))) (cond (Nat.blt k 40) (cond (Nat.blt k 38) (f__law_least) (cond (Nat.blt k 39) (f__law_common) (f__law_two_right))) (cond (Nat.blt k 41) (f__law_numbers_right) (cond (Nat.blt k 42) (f__law_right) (f_law))))))
end
end L12
namespace L12
open PySem PySem.Spec PyProof.Rows L2 Dz
def top (i : Nat) : Stmt := PySem.Challenge.pw_beginningswaps_k12_whole_words_by_beginn.main.body.getD i (.Pass ⟨0, 0, 0, 0⟩)
def d_is_integer : He.DefD := ⟨("is_integer", none), "is_integer", "is_integer", defArgs (top 10), defBody (top 10), defScope (top 10), [], []⟩
theorem sc_is_integer : FnScope ["value"] ["value"] d_is_integer.scope := ⟨rfl, rfl, rfl, by decide +kernel, rfl, by decide +kernel, by decide +kernel⟩
def d_is_count : He.DefD := ⟨("is_count", none), "is_count", "is_count", defArgs (top 11), defBody (top 11), defScope (top 11), [], []⟩
theorem sc_is_count : FnScope ["value"] ["value"] d_is_count.scope := ⟨rfl, rfl, rfl, by decide +kernel, rfl, by decide +kernel, by decide +kernel⟩
def d_is_list : He.DefD := ⟨("is_list", none), "is_list", "is_list", defArgs (top 12), defBody (top 12), defScope (top 12), [], []⟩
theorem sc_is_list : FnScope ["value"] ["value"] d_is_list.scope := ⟨rfl, rfl, rfl, by decide +kernel, rfl, by decide +kernel, by decide +kernel⟩
def d_want_many : He.DefD := ⟨("want_many", none), "want_many", "want_many", defArgs (top 13), defBody (top 13), defScope (top 13), [.int 0], []⟩
theorem sc_want_many : FnScope ["value", "most", "least"] ["value", "most", "least"] d_want_many.scope := ⟨rfl, rfl, rfl, by decide +kernel, rfl, by decide +kernel, by decide +kernel⟩
def d_want_at_most : He.DefD := ⟨("want_at_most", none), "want_at_most", "want_at_most", defArgs (top 14), defBody (top 14), defScope (top 14), [], []⟩
theorem sc_want_at_most : FnScope ["what", "limit", "number"] ["what", "limit", "number"] d_want_at_most.scope := ⟨rfl, rfl, rfl, by decide +kernel, rfl, by decide +kernel, by decide +kernel⟩
def d_is_size_value : He.DefD := ⟨("is_size_value", none), "is_size_value", "is_size_value", defArgs (top 21), defBody (top 21), defScope (top 21), [], []⟩
theorem sc_is_size_value : FnScope ["value"] ["value"] d_is_size_value.scope := ⟨rfl, rfl, rfl, by decide +kernel, rfl, by decide +kernel, by decide +kernel⟩
def d_want_size : He.DefD := ⟨("want_size", none), "want_size", "want_size", defArgs (top 22), defBody (top 22), defScope (top 22), [], []⟩
theorem sc_want_size : FnScope ["size"] ["size"] d_want_size.scope := ⟨rfl, rfl, rfl, by decide +kernel, rfl, by decide +kernel, by decide +kernel⟩
def d_is_word_value : He.DefD := ⟨("is_word_value", none), "is_word_value", "is_word_value", defArgs (top 23), defBody (top 23), defScope (top 23), [], []⟩
theorem sc_is_word_value : FnScope ["size", "value", "one"] ["size", "value"] d_is_word_value.scope := ⟨rfl, rfl, rfl, by decide +kernel, rfl, by decide +kernel, by decide +kernel⟩
def d_want_word : He.DefD := ⟨("want_word", none), "want_word", "want_word", defArgs (top 24), defBody (top 24), defScope (top 24), [], []⟩
theorem sc_want_word : FnScope ["size", "value"] ["size", "value"] d_want_word.scope := ⟨rfl, rfl, rfl, by decide +kernel, rfl, by decide +kernel, by decide +kernel⟩
def d_are_words_value : He.DefD := ⟨("are_words_value", none), "are_words_value", "are_words_value", defArgs (top 25), defBody (top 25), defScope (top 25), [], []⟩
theorem sc_are_words_value : FnScope ["size", "value", "one"] ["size", "value"] d_are_words_value.scope := ⟨rfl, rfl, rfl, by decide +kernel, rfl, by decide +kernel, by decide +kernel⟩
def d_want_words : He.DefD := ⟨("want_words", none), "want_words", "want_words", defArgs (top 26), defBody (top 26), defScope (top 26), [], []⟩
theorem sc_want_words : FnScope ["size", "value"] ["size", "value"] d_want_words.scope := ⟨rfl, rfl, rfl, by decide +kernel, rfl, by decide +kernel, by decide +kernel⟩
def d_begins : He.DefD := ⟨("begins", none), "begins", "begins", defArgs (top 27), defBody (top 27), defScope (top 27), [], []⟩
theorem sc_begins : FnScope ["word", "other"] ["word", "other"] d_begins.scope := ⟨rfl, rfl, rfl, by decide +kernel, rfl, by decide +kernel, by decide +kernel⟩
def d_two_clash : He.DefD := ⟨("two_clash", none), "two_clash", "two_clash", defArgs (top 28), defBody (top 28), defScope (top 28), [], []⟩
theorem sc_two_clash : FnScope ["word", "other"] ["word", "other"] d_two_clash.scope := ⟨rfl, rfl, rfl, by decide +kernel, rfl, by decide +kernel, by decide +kernel⟩
def d_split_of : He.DefD := ⟨("split_of", none), "split_of", "split_of", defArgs (top 29), defBody (top 29), defScope (top 29), [], []⟩
theorem sc_split_of : FnScope ["size", "word", "letter"] ["size", "word"] d_split_of.scope := ⟨rfl, rfl, rfl, by decide +kernel, rfl, by decide +kernel, by decide +kernel⟩
def d_common_of : He.DefD := ⟨("common_of", none), "common_of", "common_of", defArgs (top 30), defBody (top 30), defScope (top 30), [], []⟩
theorem sc_common_of : FnScope ["word", "other", "many"] ["word", "other"] d_common_of.scope := ⟨rfl, rfl, rfl, by decide +kernel, rfl, by decide +kernel, by decide +kernel⟩
def d_times : He.DefD := ⟨("times", none), "times", "times", defArgs (top 31), defBody (top 31), defScope (top 31), [], []⟩
theorem sc_times : FnScope ["size", "many", "found", "turn"] ["size", "many"] d_times.scope := ⟨rfl, rfl, rfl, by decide +kernel, rfl, by decide +kernel, by decide +kernel⟩
def d_first_clash : He.DefD := ⟨("first_clash", none), "first_clash", "first_clash", defArgs (top 32), defBody (top 32), defScope (top 32), [], []⟩
theorem sc_first_clash : FnScope ["words", "at", "word", "some", "other"] ["words"] d_first_clash.scope := ⟨rfl, rfl, rfl, by decide +kernel, rfl, by decide +kernel, by decide +kernel⟩
def d_number_of : He.DefD := ⟨("number_of", none), "number_of", "number_of", defArgs (top 33), defBody (top 33), defScope (top 33), [], []⟩
theorem sc_number_of : FnScope ["size", "word", "found", "letter"] ["size", "word"] d_number_of.scope := ⟨rfl, rfl, rfl, by decide +kernel, rfl, by decide +kernel, by decide +kernel⟩
def d_word_by : He.DefD := ⟨("word_by", none), "word_by", "word_by", defArgs (top 34), defBody (top 34), defScope (top 34), [], []⟩
theorem sc_word_by : FnScope ["size", "length", "number", "found", "left", "turn"] ["size", "length", "number"] d_word_by.scope := ⟨rfl, rfl, rfl, by decide +kernel, rfl, by decide +kernel, by decide +kernel⟩
def d_is_word : He.DefD := ⟨("is_word", none), "is_word", "is_word", defArgs (top 35), defBody (top 35), defScope (top 35), [], []⟩
theorem sc_is_word : FnScope ["size", "value"] ["size", "value"] d_is_word.scope := ⟨rfl, rfl, rfl, by decide +kernel, rfl, by decide +kernel, by decide +kernel⟩
def d_does_begin : He.DefD := ⟨("does_begin", none), "does_begin", "does_begin", defArgs (top 36), defBody (top 36), defScope (top 36), [], []⟩
theorem sc_does_begin : FnScope ["size", "word", "other"] ["size", "word", "other"] d_does_begin.scope := ⟨rfl, rfl, rfl, by decide +kernel, rfl, by decide +kernel, by decide +kernel⟩
def d_are_apart : He.DefD := ⟨("are_apart", none), "are_apart", "are_apart", defArgs (top 37), defBody (top 37), defScope (top 37), [], []⟩
theorem sc_are_apart : FnScope ["size", "words"] ["size", "words"] d_are_apart.scope := ⟨rfl, rfl, rfl, by decide +kernel, rfl, by decide +kernel, by decide +kernel⟩
def d_split : He.DefD := ⟨("split", none), "split", "split", defArgs (top 38), defBody (top 38), defScope (top 38), [], []⟩
theorem sc_split : FnScope ["size", "word"] ["size", "word"] d_split.scope := ⟨rfl, rfl, rfl, by decide +kernel, rfl, by decide +kernel, by decide +kernel⟩
def d_common_beginning : He.DefD := ⟨("common_beginning", none), "common_beginning", "common_beginning", defArgs (top 39), defBody (top 39), defScope (top 39), [], []⟩
theorem sc_common_beginning : FnScope ["size", "word", "other"] ["size", "word", "other"] d_common_beginning.scope := ⟨rfl, rfl, rfl, by decide +kernel, rfl, by decide +kernel, by decide +kernel⟩
def d_word_number : He.DefD := ⟨("word_number", none), "word_number", "word_number", defArgs (top 40), defBody (top 40), defScope (top 40), [], []⟩
theorem sc_word_number : FnScope ["size", "word"] ["size", "word"] d_word_number.scope := ⟨rfl, rfl, rfl, by decide +kernel, rfl, by decide +kernel, by decide +kernel⟩
def d_word_at : He.DefD := ⟨("word_at", none), "word_at", "word_at", defArgs (top 41), defBody (top 41), defScope (top 41), [], []⟩
theorem sc_word_at : FnScope ["size", "length", "number"] ["size", "length", "number"] d_word_at.scope := ⟨rfl, rfl, rfl, by decide +kernel, rfl, by decide +kernel, by decide +kernel⟩
def d_all_words : He.DefD := ⟨("all_words", none), "all_words", "all_words", defArgs (top 42), defBody (top 42), defScope (top 42), [], []⟩
theorem sc_all_words : FnScope ["size", "length", "many", "number"] ["size", "length"] d_all_words.scope := ⟨rfl, rfl, rfl, by decide +kernel, rfl, by decide +kernel, by decide +kernel⟩
def d__law_pot : He.DefD := ⟨("_law_pot", none), "_law_pot", "_law_pot", defArgs (top 44), defBody (top 44), defScope (top 44), [], []⟩
theorem sc__law_pot : FnScope ["script", "k", "cell"] ["script", "k"] d__law_pot.scope := ⟨rfl, rfl, rfl, by decide +kernel, rfl, by decide +kernel, by decide +kernel⟩
def d__law_draw : He.DefD := ⟨("_law_draw", none), "_law_draw", "_law_draw", defArgs (top 45), defBody (top 45), defScope (top 45), [], []⟩
theorem sc__law_draw : FnScope ["pot", "many", "digit"] ["pot", "many"] d__law_draw.scope := ⟨rfl, rfl, rfl, by decide +kernel, rfl, by decide +kernel, by decide +kernel⟩
def d__law_pick : He.DefD := ⟨("_law_pick", none), "_law_pick", "_law_pick", defArgs (top 46), defBody (top 46), defScope (top 46), [], []⟩
theorem sc__law_pick : FnScope ["pot", "some"] ["pot", "some"] d__law_pick.scope := ⟨rfl, rfl, rfl, by decide +kernel, rfl, by decide +kernel, by decide +kernel⟩
def d__law_mixed : He.DefD := ⟨("_law_mixed", none), "_law_mixed", "_law_mixed", defArgs (top 47), defBody (top 47), defScope (top 47), [], []⟩
theorem sc__law_mixed : FnScope ["pot", "some", "left", "found"] ["pot", "some"] d__law_mixed.scope := ⟨rfl, rfl, rfl, by decide +kernel, rfl, by decide +kernel, by decide +kernel⟩
def d__law_word : He.DefD := ⟨("_law_word", none), "_law_word", "_law_word", defArgs (top 48), defBody (top 48), defScope (top 48), [], []⟩
theorem sc__law_word : FnScope ["pot", "size", "most", "letter"] ["pot", "size", "most"] d__law_word.scope := ⟨rfl, rfl, rfl, by decide +kernel, rfl, by decide +kernel, by decide +kernel⟩
def d__law_begins : He.DefD := ⟨("_law_begins", none), "_law_begins", "_law_begins", defArgs (top 49), defBody (top 49), defScope (top 49), [], []⟩
theorem sc__law_begins : FnScope ["word", "other"] ["word", "other"] d__law_begins.scope := ⟨rfl, rfl, rfl, by decide +kernel, rfl, by decide +kernel, by decide +kernel⟩
def d__law_clash : He.DefD := ⟨("_law_clash", none), "_law_clash", "_law_clash", defArgs (top 50), defBody (top 50), defScope (top 50), [], []⟩
theorem sc__law_clash : FnScope ["word", "other"] ["word", "other"] d__law_clash.scope := ⟨rfl, rfl, rfl, by decide +kernel, rfl, by decide +kernel, by decide +kernel⟩
def d__law_full : He.DefD := ⟨("_law_full", none), "_law_full", "_law_full", defArgs (top 51), defBody (top 51), defScope (top 51), [], []⟩
theorem sc__law_full : FnScope ["pot", "size", "splits", "most", "found", "turn", "word", "one", "letter"] ["pot", "size", "splits", "most"] d__law_full.scope := ⟨rfl, rfl, rfl, by decide +kernel, rfl, by decide +kernel, by decide +kernel⟩
def d__law_cut : He.DefD := ⟨("_law_cut", none), "_law_cut", "_law_cut", defArgs (top 52), defBody (top 52), defScope (top 52), [], []⟩
theorem sc__law_cut : FnScope ["pot", "size", "splits", "most", "full", "way", "word"] ["pot", "size", "splits", "most"] d__law_cut.scope := ⟨rfl, rfl, rfl, by decide +kernel, rfl, by decide +kernel, by decide +kernel⟩
def d__law_all : He.DefD := ⟨("_law_all", none), "_law_all", "_law_all", defArgs (top 53), defBody (top 53), defScope (top 53), [], []⟩
theorem sc__law_all : FnScope ["size", "many", "found", "turn", "longer", "word", "letter"] ["size", "many"] d__law_all.scope := ⟨rfl, rfl, rfl, by decide +kernel, rfl, by decide +kernel, by decide +kernel⟩
def d__law_least : He.DefD := ⟨("_law_least", none), "_law_least", "_law_least", defArgs (top 54), defBody (top 54), defScope (top 54), [], []⟩
theorem sc__law_least : FnScope ["size", "words", "some", "is_less", "word", "family", "letter", "one"] ["size", "words"] d__law_least.scope := ⟨rfl, rfl, rfl, by decide +kernel, rfl, by decide +kernel, by decide +kernel⟩
def d__law_common : He.DefD := ⟨("_law_common", none), "_law_common", "_law_common", defArgs (top 55), defBody (top 55), defScope (top 55), [], []⟩
theorem sc__law_common : FnScope ["word", "other", "found", "one", "late"] ["word", "other"] d__law_common.scope := ⟨rfl, rfl, rfl, by decide +kernel, rfl, by decide +kernel, by decide +kernel⟩
def d__law_two_right : He.DefD := ⟨("_law_two_right", none), "_law_two_right", "_law_two_right", defArgs (top 56), defBody (top 56), defScope (top 56), [], []⟩
theorem sc__law_two_right : FnScope ["size", "word", "other", "shown", "due", "is_ahead", "clash"] ["size", "word", "other"] d__law_two_right.scope := ⟨rfl, rfl, rfl, by decide +kernel, rfl, by decide +kernel, by decide +kernel⟩
def d__law_numbers_right : He.DefD := ⟨("_law_numbers_right", none), "_law_numbers_right", "_law_numbers_right", defArgs (top 57), defBody (top 57), defScope (top 57), [], []⟩
theorem sc__law_numbers_right : FnScope ["pot", "size", "length", "due", "told", "turn", "number", "word", "more", "late"] ["pot", "size"] d__law_numbers_right.scope := ⟨rfl, rfl, rfl, by decide +kernel, rfl, by decide +kernel, by decide +kernel⟩
def d__law_right : He.DefD := ⟨("_law_right", none), "_law_right", "_law_right", defArgs (top 58), defBody (top 58), defScope (top 58), [], []⟩
theorem sc__law_right : FnScope ["pot", "size", "words", "turn", "word", "other", "due", "letter", "told", "some", "late", "at", "long", "number"] ["pot"] d__law_right.scope := ⟨rfl, rfl, rfl, by decide +kernel, rfl, by decide +kernel, by decide +kernel⟩
def d_law : He.DefD := ⟨("law", none), "law", "law", defArgs (top 59), defBody (top 59), defScope (top 59), [], []⟩
theorem sc_law : FnScope ["script", "k"] ["script"] d_law.scope := ⟨rfl, rfl, rfl, by decide +kernel, rfl, by decide +kernel, by decide +kernel⟩
structure Hy (K : PySem.W.Frag) (mg : Str → Option Value) : Prop where
  F_is_integer : ∃ fd, FunD K d_is_integer.name d_is_integer.qual d_is_integer.params d_is_integer.body d_is_integer.scope (d_is_integer.dvs K) (d_is_integer.kws K) (He.fAd K d_is_integer.at_) fd
  m_is_integer : mg "is_integer" = some (.ref (He.fAd K d_is_integer.at_))
  F_is_count : ∃ fd, FunD K d_is_count.name d_is_count.qual d_is_count.params d_is_count.body d_is_count.scope (d_is_count.dvs K) (d_is_count.kws K) (He.fAd K d_is_count.at_) fd
  m_is_count : mg "is_count" = some (.ref (He.fAd K d_is_count.at_))
  F_is_list : ∃ fd, FunD K d_is_list.name d_is_list.qual d_is_list.params d_is_list.body d_is_list.scope (d_is_list.dvs K) (d_is_list.kws K) (He.fAd K d_is_list.at_) fd
  m_is_list : mg "is_list" = some (.ref (He.fAd K d_is_list.at_))
  F_want_many : ∃ fd, FunD K d_want_many.name d_want_many.qual d_want_many.params d_want_many.body d_want_many.scope (d_want_many.dvs K) (d_want_many.kws K) (He.fAd K d_want_many.at_) fd
  m_want_many : mg "want_many" = some (.ref (He.fAd K d_want_many.at_))
  F_want_at_most : ∃ fd, FunD K d_want_at_most.name d_want_at_most.qual d_want_at_most.params d_want_at_most.body d_want_at_most.scope (d_want_at_most.dvs K) (d_want_at_most.kws K) (He.fAd K d_want_at_most.at_) fd
  m_want_at_most : mg "want_at_most" = some (.ref (He.fAd K d_want_at_most.at_))
  F_is_size_value : ∃ fd, FunD K d_is_size_value.name d_is_size_value.qual d_is_size_value.params d_is_size_value.body d_is_size_value.scope (d_is_size_value.dvs K) (d_is_size_value.kws K) (He.fAd K d_is_size_value.at_) fd
  m_is_size_value : mg "is_size_value" = some (.ref (He.fAd K d_is_size_value.at_))
  F_want_size : ∃ fd, FunD K d_want_size.name d_want_size.qual d_want_size.params d_want_size.body d_want_size.scope (d_want_size.dvs K) (d_want_size.kws K) (He.fAd K d_want_size.at_) fd
  m_want_size : mg "want_size" = some (.ref (He.fAd K d_want_size.at_))
  F_is_word_value : ∃ fd, FunD K d_is_word_value.name d_is_word_value.qual d_is_word_value.params d_is_word_value.body d_is_word_value.scope (d_is_word_value.dvs K) (d_is_word_value.kws K) (He.fAd K d_is_word_value.at_) fd
  m_is_word_value : mg "is_word_value" = some (.ref (He.fAd K d_is_word_value.at_))
  F_want_word : ∃ fd, FunD K d_want_word.name d_want_word.qual d_want_word.params d_want_word.body d_want_word.scope (d_want_word.dvs K) (d_want_word.kws K) (He.fAd K d_want_word.at_) fd
  m_want_word : mg "want_word" = some (.ref (He.fAd K d_want_word.at_))
  F_are_words_value : ∃ fd, FunD K d_are_words_value.name d_are_words_value.qual d_are_words_value.params d_are_words_value.body d_are_words_value.scope (d_are_words_value.dvs K) (d_are_words_value.kws K) (He.fAd K d_are_words_value.at_) fd
  m_are_words_value : mg "are_words_value" = some (.ref (He.fAd K d_are_words_value.at_))
  F_want_words : ∃ fd, FunD K d_want_words.name d_want_words.qual d_want_words.params d_want_words.body d_want_words.scope (d_want_words.dvs K) (d_want_words.kws K) (He.fAd K d_want_words.at_) fd
  m_want_words : mg "want_words" = some (.ref (He.fAd K d_want_words.at_))
  F_begins : ∃ fd, FunD K d_begins.name d_begins.qual d_begins.params d_begins.body d_begins.scope (d_begins.dvs K) (d_begins.kws K) (He.fAd K d_begins.at_) fd
  m_begins : mg "begins" = some (.ref (He.fAd K d_begins.at_))
  F_two_clash : ∃ fd, FunD K d_two_clash.name d_two_clash.qual d_two_clash.params d_two_clash.body d_two_clash.scope (d_two_clash.dvs K) (d_two_clash.kws K) (He.fAd K d_two_clash.at_) fd
  m_two_clash : mg "two_clash" = some (.ref (He.fAd K d_two_clash.at_))
  F_split_of : ∃ fd, FunD K d_split_of.name d_split_of.qual d_split_of.params d_split_of.body d_split_of.scope (d_split_of.dvs K) (d_split_of.kws K) (He.fAd K d_split_of.at_) fd
  m_split_of : mg "split_of" = some (.ref (He.fAd K d_split_of.at_))
  F_common_of : ∃ fd, FunD K d_common_of.name d_common_of.qual d_common_of.params d_common_of.body d_common_of.scope (d_common_of.dvs K) (d_common_of.kws K) (He.fAd K d_common_of.at_) fd
  m_common_of : mg "common_of" = some (.ref (He.fAd K d_common_of.at_))
  F_times : ∃ fd, FunD K d_times.name d_times.qual d_times.params d_times.body d_times.scope (d_times.dvs K) (d_times.kws K) (He.fAd K d_times.at_) fd
  m_times : mg "times" = some (.ref (He.fAd K d_times.at_))
  F_first_clash : ∃ fd, FunD K d_first_clash.name d_first_clash.qual d_first_clash.params d_first_clash.body d_first_clash.scope (d_first_clash.dvs K) (d_first_clash.kws K) (He.fAd K d_first_clash.at_) fd
  m_first_clash : mg "first_clash" = some (.ref (He.fAd K d_first_clash.at_))
  F_number_of : ∃ fd, FunD K d_number_of.name d_number_of.qual d_number_of.params d_number_of.body d_number_of.scope (d_number_of.dvs K) (d_number_of.kws K) (He.fAd K d_number_of.at_) fd
  m_number_of : mg "number_of" = some (.ref (He.fAd K d_number_of.at_))
  F_word_by : ∃ fd, FunD K d_word_by.name d_word_by.qual d_word_by.params d_word_by.body d_word_by.scope (d_word_by.dvs K) (d_word_by.kws K) (He.fAd K d_word_by.at_) fd
  m_word_by : mg "word_by" = some (.ref (He.fAd K d_word_by.at_))
  F_is_word : ∃ fd, FunD K d_is_word.name d_is_word.qual d_is_word.params d_is_word.body d_is_word.scope (d_is_word.dvs K) (d_is_word.kws K) (He.fAd K d_is_word.at_) fd
  m_is_word : mg "is_word" = some (.ref (He.fAd K d_is_word.at_))
  F_does_begin : ∃ fd, FunD K d_does_begin.name d_does_begin.qual d_does_begin.params d_does_begin.body d_does_begin.scope (d_does_begin.dvs K) (d_does_begin.kws K) (He.fAd K d_does_begin.at_) fd
  m_does_begin : mg "does_begin" = some (.ref (He.fAd K d_does_begin.at_))
  F_are_apart : ∃ fd, FunD K d_are_apart.name d_are_apart.qual d_are_apart.params d_are_apart.body d_are_apart.scope (d_are_apart.dvs K) (d_are_apart.kws K) (He.fAd K d_are_apart.at_) fd
  m_are_apart : mg "are_apart" = some (.ref (He.fAd K d_are_apart.at_))
  F_split : ∃ fd, FunD K d_split.name d_split.qual d_split.params d_split.body d_split.scope (d_split.dvs K) (d_split.kws K) (He.fAd K d_split.at_) fd
  m_split : mg "split" = some (.ref (He.fAd K d_split.at_))
  F_common_beginning : ∃ fd, FunD K d_common_beginning.name d_common_beginning.qual d_common_beginning.params d_common_beginning.body d_common_beginning.scope (d_common_beginning.dvs K) (d_common_beginning.kws K) (He.fAd K d_common_beginning.at_) fd
  m_common_beginning : mg "common_beginning" = some (.ref (He.fAd K d_common_beginning.at_))
  F_word_number : ∃ fd, FunD K d_word_number.name d_word_number.qual d_word_number.params d_word_number.body d_word_number.scope (d_word_number.dvs K) (d_word_number.kws K) (He.fAd K d_word_number.at_) fd
  m_word_number : mg "word_number" = some (.ref (He.fAd K d_word_number.at_))
  F_word_at : ∃ fd, FunD K d_word_at.name d_word_at.qual d_word_at.params d_word_at.body d_word_at.scope (d_word_at.dvs K) (d_word_at.kws K) (He.fAd K d_word_at.at_) fd
  m_word_at : mg "word_at" = some (.ref (He.fAd K d_word_at.at_))
  F_all_words : ∃ fd, FunD K d_all_words.name d_all_words.qual d_all_words.params d_all_words.body d_all_words.scope (d_all_words.dvs K) (d_all_words.kws K) (He.fAd K d_all_words.at_) fd
  m_all_words : mg "all_words" = some (.ref (He.fAd K d_all_words.at_))
  F__law_pot : ∃ fd, FunD K d__law_pot.name d__law_pot.qual d__law_pot.params d__law_pot.body d__law_pot.scope (d__law_pot.dvs K) (d__law_pot.kws K) (He.fAd K d__law_pot.at_) fd
  m__law_pot : mg "_law_pot" = some (.ref (He.fAd K d__law_pot.at_))
  F__law_draw : ∃ fd, FunD K d__law_draw.name d__law_draw.qual d__law_draw.params d__law_draw.body d__law_draw.scope (d__law_draw.dvs K) (d__law_draw.kws K) (He.fAd K d__law_draw.at_) fd
  m__law_draw : mg "_law_draw" = some (.ref (He.fAd K d__law_draw.at_))
  F__law_pick : ∃ fd, FunD K d__law_pick.name d__law_pick.qual d__law_pick.params d__law_pick.body d__law_pick.scope (d__law_pick.dvs K) (d__law_pick.kws K) (He.fAd K d__law_pick.at_) fd
  m__law_pick : mg "_law_pick" = some (.ref (He.fAd K d__law_pick.at_))
  F__law_mixed : ∃ fd, FunD K d__law_mixed.name d__law_mixed.qual d__law_mixed.params d__law_mixed.body d__law_mixed.scope (d__law_mixed.dvs K) (d__law_mixed.kws K) (He.fAd K d__law_mixed.at_) fd
  m__law_mixed : mg "_law_mixed" = some (.ref (He.fAd K d__law_mixed.at_))
  F__law_word : ∃ fd, FunD K d__law_word.name d__law_word.qual d__law_word.params d__law_word.body d__law_word.scope (d__law_word.dvs K) (d__law_word.kws K) (He.fAd K d__law_word.at_) fd
  m__law_word : mg "_law_word" = some (.ref (He.fAd K d__law_word.at_))
  F__law_begins : ∃ fd, FunD K d__law_begins.name d__law_begins.qual d__law_begins.params d__law_begins.body d__law_begins.scope (d__law_begins.dvs K) (d__law_begins.kws K) (He.fAd K d__law_begins.at_) fd
  m__law_begins : mg "_law_begins" = some (.ref (He.fAd K d__law_begins.at_))
  F__law_clash : ∃ fd, FunD K d__law_clash.name d__law_clash.qual d__law_clash.params d__law_clash.body d__law_clash.scope (d__law_clash.dvs K) (d__law_clash.kws K) (He.fAd K d__law_clash.at_) fd
  m__law_clash : mg "_law_clash" = some (.ref (He.fAd K d__law_clash.at_))
  F__law_full : ∃ fd, FunD K d__law_full.name d__law_full.qual d__law_full.params d__law_full.body d__law_full.scope (d__law_full.dvs K) (d__law_full.kws K) (He.fAd K d__law_full.at_) fd
  m__law_full : mg "_law_full" = some (.ref (He.fAd K d__law_full.at_))
  F__law_cut : ∃ fd, FunD K d__law_cut.name d__law_cut.qual d__law_cut.params d__law_cut.body d__law_cut.scope (d__law_cut.dvs K) (d__law_cut.kws K) (He.fAd K d__law_cut.at_) fd
  m__law_cut : mg "_law_cut" = some (.ref (He.fAd K d__law_cut.at_))
  F__law_all : ∃ fd, FunD K d__law_all.name d__law_all.qual d__law_all.params d__law_all.body d__law_all.scope (d__law_all.dvs K) (d__law_all.kws K) (He.fAd K d__law_all.at_) fd
  m__law_all : mg "_law_all" = some (.ref (He.fAd K d__law_all.at_))
  F__law_least : ∃ fd, FunD K d__law_least.name d__law_least.qual d__law_least.params d__law_least.body d__law_least.scope (d__law_least.dvs K) (d__law_least.kws K) (He.fAd K d__law_least.at_) fd
  m__law_least : mg "_law_least" = some (.ref (He.fAd K d__law_least.at_))
  F__law_common : ∃ fd, FunD K d__law_common.name d__law_common.qual d__law_common.params d__law_common.body d__law_common.scope (d__law_common.dvs K) (d__law_common.kws K) (He.fAd K d__law_common.at_) fd
  m__law_common : mg "_law_common" = some (.ref (He.fAd K d__law_common.at_))
  F__law_two_right : ∃ fd, FunD K d__law_two_right.name d__law_two_right.qual d__law_two_right.params d__law_two_right.body d__law_two_right.scope (d__law_two_right.dvs K) (d__law_two_right.kws K) (He.fAd K d__law_two_right.at_) fd
  m__law_two_right : mg "_law_two_right" = some (.ref (He.fAd K d__law_two_right.at_))
  F__law_numbers_right : ∃ fd, FunD K d__law_numbers_right.name d__law_numbers_right.qual d__law_numbers_right.params d__law_numbers_right.body d__law_numbers_right.scope (d__law_numbers_right.dvs K) (d__law_numbers_right.kws K) (He.fAd K d__law_numbers_right.at_) fd
  m__law_numbers_right : mg "_law_numbers_right" = some (.ref (He.fAd K d__law_numbers_right.at_))
  F__law_right : ∃ fd, FunD K d__law_right.name d__law_right.qual d__law_right.params d__law_right.body d__law_right.scope (d__law_right.dvs K) (d__law_right.kws K) (He.fAd K d__law_right.at_) fd
  m__law_right : mg "_law_right" = some (.ref (He.fAd K d__law_right.at_))
  F_law : ∃ fd, FunD K d_law.name d_law.qual d_law.params d_law.body d_law.scope (d_law.dvs K) (d_law.kws K) (He.fAd K d_law.at_) fd
  m_law : mg "law" = some (.ref (He.fAd K d_law.at_))
  no_abs : mg "abs" = none
  no_all : mg "all" = none
  no_any : mg "any" = none
  no_bool : mg "bool" = none
  no_divmod : mg "divmod" = none
  no_enumerate : mg "enumerate" = none
  no_int : mg "int" = none
  no_isinstance : mg "isinstance" = none
  no_len : mg "len" = none
  no_list : mg "list" = none
  no_max : mg "max" = none
  no_min : mg "min" = none
  no_range : mg "range" = none
  no_repr : mg "repr" = none
  no_sorted : mg "sorted" = none
  no_tuple : mg "tuple" = none
  no_zip : mg "zip" = none
  c_LEAST_SIZE : ∃ u, mg "LEAST_SIZE" = some u ∧ RelV (.int 2) u
  c_MOST_LETTERS : ∃ u, mg "MOST_LETTERS" = some u ∧ RelV (.int 40) u
  c_MOST_LISTED : ∃ u, mg "MOST_LISTED" = some u ∧ RelV (.int 400) u
  c_MOST_SIZE : ∃ u, mg "MOST_SIZE" = some u ∧ RelV (.int 4) u
  c_MOST_WORDS : ∃ u, mg "MOST_WORDS" = some u ∧ RelV (.int 128) u
structure All (call : Call) (P : Program) (w : World) (K : PySem.W.Frag) (mg : Str → Option Value) (base : Heap) (r : Nat) (G : Gv) : Prop where
  is_integer : DOk P w K mg base r G call 0 d_is_integer ["value"]
  is_count : DOk P w K mg base r G call 1 d_is_count ["value"]
  is_list : DOk P w K mg base r G call 2 d_is_list ["value"]
  want_many : DOk P w K mg base r G call 3 d_want_many ["value", "most", "least"]
  want_at_most : DOk P w K mg base r G call 4 d_want_at_most ["what", "limit", "number"]
  is_size_value : DOk P w K mg base r G call 5 d_is_size_value ["value"]
  want_size : DOk P w K mg base r G call 6 d_want_size ["size"]
  is_word_value : DOk P w K mg base r G call 7 d_is_word_value ["size", "value"]
  want_word : DOk P w K mg base r G call 8 d_want_word ["size", "value"]
  are_words_value : DOk P w K mg base r G call 9 d_are_words_value ["size", "value"]
  want_words : DOk P w K mg base r G call 10 d_want_words ["size", "value"]
  begins : DOk P w K mg base r G call 11 d_begins ["word", "other"]
  two_clash : DOk P w K mg base r G call 12 d_two_clash ["word", "other"]
  split_of : DOk P w K mg base r G call 13 d_split_of ["size", "word"]
  common_of : DOk P w K mg base r G call 14 d_common_of ["word", "other"]
  times : DOk P w K mg base r G call 15 d_times ["size", "many"]
  first_clash : DOk P w K mg base r G call 16 d_first_clash ["words"]
  number_of : DOk P w K mg base r G call 17 d_number_of ["size", "word"]
  word_by : DOk P w K mg base r G call 18 d_word_by ["size", "length", "number"]
  is_word : DOk P w K mg base r G call 19 d_is_word ["size", "value"]
  does_begin : DOk P w K mg base r G call 20 d_does_begin ["size", "word", "other"]
  are_apart : DOk P w K mg base r G call 21 d_are_apart ["size", "words"]
  split : DOk P w K mg base r G call 22 d_split ["size", "word"]
  common_beginning : DOk P w K mg base r G call 23 d_common_beginning ["size", "word", "other"]
  word_number : DOk P w K mg base r G call 24 d_word_number ["size", "word"]
  word_at : DOk P w K mg base r G call 25 d_word_at ["size", "length", "number"]
  all_words : DOk P w K mg base r G call 26 d_all_words ["size", "length"]
  _law_pot : DOk P w K mg base r G call 27 d__law_pot ["script", "k"]
  _law_draw : DOk P w K mg base r G call 28 d__law_draw ["pot", "many"]
  _law_pick : DOk P w K mg base r G call 29 d__law_pick ["pot", "some"]
  _law_mixed : DOk P w K mg base r G call 30 d__law_mixed ["pot", "some"]
  _law_word : DOk P w K mg base r G call 31 d__law_word ["pot", "size", "most"]
  _law_begins : DOk P w K mg base r G call 32 d__law_begins ["word", "other"]
  _law_clash : DOk P w K mg base r G call 33 d__law_clash ["word", "other"]
  _law_full : DOk P w K mg base r G call 34 d__law_full ["pot", "size", "splits", "most"]
  _law_cut : DOk P w K mg base r G call 35 d__law_cut ["pot", "size", "splits", "most"]
  _law_all : DOk P w K mg base r G call 36 d__law_all ["size", "many"]
  _law_least : DOk P w K mg base r G call 37 d__law_least ["size", "words"]
  _law_common : DOk P w K mg base r G call 38 d__law_common ["word", "other"]
  _law_two_right : DOk P w K mg base r G call 39 d__law_two_right ["size", "word", "other"]
  _law_numbers_right : DOk P w K mg base r G call 40 d__law_numbers_right ["pot", "size"]
  _law_right : DOk P w K mg base r G call 41 d__law_right ["pot"]
section
variable {P : Program} {w : World} {K : PySem.W.Frag} {mg : Str → Option Value} {base : Heap} {r : Nat} {G : Gv} {call call2 : Call}
theorem cp__law_all_2 (Y : Hy K mg) (A : All call P w K mg base r G) : CallP P w K mg base r G call "_law_all" 36 2 [.at_ 0, .at_ 1] := callP A._law_all Y.m__law_all rfl rfl rfl fun _ _ _ _ _ _ us h => match us, h with | [_, _], _ => rfl
theorem cp__law_begins_2 (Y : Hy K mg) (A : All call P w K mg base r G) : CallP P w K mg base r G call "_law_begins" 32 2 [.at_ 0, .at_ 1] := callP A._law_begins Y.m__law_begins rfl rfl rfl fun _ _ _ _ _ _ us h => match us, h with | [_, _], _ => rfl
theorem cp__law_clash_2 (Y : Hy K mg) (A : All call P w K mg base r G) : CallP P w K mg base r G call "_law_clash" 33 2 [.at_ 0, .at_ 1] := callP A._law_clash Y.m__law_clash rfl rfl rfl fun _ _ _ _ _ _ us h => match us, h with | [_, _], _ => rfl
theorem cp__law_common_2 (Y : Hy K mg) (A : All call P w K mg base r G) : CallP P w K mg base r G call "_law_common" 38 2 [.at_ 0, .at_ 1] := callP A._law_common Y.m__law_common rfl rfl rfl fun _ _ _ _ _ _ us h => match us, h with | [_, _], _ => rfl
theorem cp__law_draw_2 (Y : Hy K mg) (A : All call P w K mg base r G) : CallP P w K mg base r G call "_law_draw" 28 2 [.at_ 0, .at_ 1] := callP A._law_draw Y.m__law_draw rfl rfl rfl fun _ _ _ _ _ _ us h => match us, h with | [_, _], _ => rfl
theorem cp__law_full_4 (Y : Hy K mg) (A : All call P w K mg base r G) : CallP P w K mg base r G call "_law_full" 34 4 [.at_ 0, .at_ 1, .at_ 2, .at_ 3] := callP A._law_full Y.m__law_full rfl rfl rfl fun _ _ _ _ _ _ us h => match us, h with | [_, _, _, _], _ => rfl
theorem cp__law_numbers_right_2 (Y : Hy K mg) (A : All call P w K mg base r G) : CallP P w K mg base r G call "_law_numbers_right" 40 2 [.at_ 0, .at_ 1] := callP A._law_numbers_right Y.m__law_numbers_right rfl rfl rfl fun _ _ _ _ _ _ us h => match us, h with | [_, _], _ => rfl
theorem cp__law_pick_2 (Y : Hy K mg) (A : All call P w K mg base r G) : CallP P w K mg base r G call "_law_pick" 29 2 [.at_ 0, .at_ 1] := callP A._law_pick Y.m__law_pick rfl rfl rfl fun _ _ _ _ _ _ us h => match us, h with | [_, _], _ => rfl
theorem cp__law_pot_2 (Y : Hy K mg) (A : All call P w K mg base r G) : CallP P w K mg base r G call "_law_pot" 27 2 [.at_ 0, .at_ 1] := callP A._law_pot Y.m__law_pot rfl rfl rfl fun _ _ _ _ _ _ us h => match us, h with | [_, _], _ => rfl
theorem cp__law_right_1 (Y : Hy K mg) (A : All call P w K mg base r G) : CallP P w K mg base r G call "_law_right" 41 1 [.at_ 0] := callP A._law_right Y.m__law_right rfl rfl rfl fun _ _ _ _ _ _ us h => match us, h with | [_], _ => rfl
theorem cp__law_two_right_3 (Y : Hy K mg) (A : All call P w K mg base r G) : CallP P w K mg base r G call "_law_two_right" 39 3 [.at_ 0, .at_ 1, .at_ 2] := callP A._law_two_right Y.m__law_two_right rfl rfl rfl fun _ _ _ _ _ _ us h => match us, h with | [_, _, _], _ => rfl
theorem cp__law_word_3 (Y : Hy K mg) (A : All call P w K mg base r G) : CallP P w K mg base r G call "_law_word" 31 3 [.at_ 0, .at_ 1, .at_ 2] := callP A._law_word Y.m__law_word rfl rfl rfl fun _ _ _ _ _ _ us h => match us, h with | [_, _, _], _ => rfl
theorem cp_all_words_2 (Y : Hy K mg) (A : All call P w K mg base r G) : CallP P w K mg base r G call "all_words" 26 2 [.at_ 0, .at_ 1] := callP A.all_words Y.m_all_words rfl rfl rfl fun _ _ _ _ _ _ us h => match us, h with | [_, _], _ => rfl
theorem cp_are_apart_2 (Y : Hy K mg) (A : All call P w K mg base r G) : CallP P w K mg base r G call "are_apart" 21 2 [.at_ 0, .at_ 1] := callP A.are_apart Y.m_are_apart rfl rfl rfl fun _ _ _ _ _ _ us h => match us, h with | [_, _], _ => rfl
theorem cp_are_words_value_2 (Y : Hy K mg) (A : All call P w K mg base r G) : CallP P w K mg base r G call "are_words_value" 9 2 [.at_ 0, .at_ 1] := callP A.are_words_value Y.m_are_words_value rfl rfl rfl fun _ _ _ _ _ _ us h => match us, h with | [_, _], _ => rfl
theorem cp_begins_2 (Y : Hy K mg) (A : All call P w K mg base r G) : CallP P w K mg base r G call "begins" 11 2 [.at_ 0, .at_ 1] := callP A.begins Y.m_begins rfl rfl rfl fun _ _ _ _ _ _ us h => match us, h with | [_, _], _ => rfl
theorem cp_common_beginning_3 (Y : Hy K mg) (A : All call P w K mg base r G) : CallP P w K mg base r G call "common_beginning" 23 3 [.at_ 0, .at_ 1, .at_ 2] := callP A.common_beginning Y.m_common_beginning rfl rfl rfl fun _ _ _ _ _ _ us h => match us, h with | [_, _, _], _ => rfl
theorem cp_common_of_2 (Y : Hy K mg) (A : All call P w K mg base r G) : CallP P w K mg base r G call "common_of" 14 2 [.at_ 0, .at_ 1] := callP A.common_of Y.m_common_of rfl rfl rfl fun _ _ _ _ _ _ us h => match us, h with | [_, _], _ => rfl
theorem cp_does_begin_3 (Y : Hy K mg) (A : All call P w K mg base r G) : CallP P w K mg base r G call "does_begin" 20 3 [.at_ 0, .at_ 1, .at_ 2] := callP A.does_begin Y.m_does_begin rfl rfl rfl fun _ _ _ _ _ _ us h => match us, h with | [_, _, _], _ => rfl
theorem cp_first_clash_1 (Y : Hy K mg) (A : All call P w K mg base r G) : CallP P w K mg base r G call "first_clash" 16 1 [.at_ 0] := callP A.first_clash Y.m_first_clash rfl rfl rfl fun _ _ _ _ _ _ us h => match us, h with | [_], _ => rfl
theorem cp_is_count_1 (Y : Hy K mg) (A : All call P w K mg base r G) : CallP P w K mg base r G call "is_count" 1 1 [.at_ 0] := callP A.is_count Y.m_is_count rfl rfl rfl fun _ _ _ _ _ _ us h => match us, h with | [_], _ => rfl
theorem cp_is_integer_1 (Y : Hy K mg) (A : All call P w K mg base r G) : CallP P w K mg base r G call "is_integer" 0 1 [.at_ 0] := callP A.is_integer Y.m_is_integer rfl rfl rfl fun _ _ _ _ _ _ us h => match us, h with | [_], _ => rfl
theorem cp_is_list_1 (Y : Hy K mg) (A : All call P w K mg base r G) : CallP P w K mg base r G call "is_list" 2 1 [.at_ 0] := callP A.is_list Y.m_is_list rfl rfl rfl fun _ _ _ _ _ _ us h => match us, h with | [_], _ => rfl
theorem cp_is_size_value_1 (Y : Hy K mg) (A : All call P w K mg base r G) : CallP P w K mg base r G call "is_size_value" 5 1 [.at_ 0] := callP A.is_size_value Y.m_is_size_value rfl rfl rfl fun _ _ _ _ _ _ us h => match us, h with | [_], _ => rfl
theorem cp_is_word_2 (Y : Hy K mg) (A : All call P w K mg base r G) : CallP P w K mg base r G call "is_word" 19 2 [.at_ 0, .at_ 1] := callP A.is_word Y.m_is_word rfl rfl rfl fun _ _ _ _ _ _ us h => match us, h with | [_, _], _ => rfl
theorem cp_is_word_value_2 (Y : Hy K mg) (A : All call P w K mg base r G) : CallP P w K mg base r G call "is_word_value" 7 2 [.at_ 0, .at_ 1] := callP A.is_word_value Y.m_is_word_value rfl rfl rfl fun _ _ _ _ _ _ us h => match us, h with | [_, _], _ => rfl
theorem cp_number_of_2 (Y : Hy K mg) (A : All call P w K mg base r G) : CallP P w K mg base r G call "number_of" 17 2 [.at_ 0, .at_ 1] := callP A.number_of Y.m_number_of rfl rfl rfl fun _ _ _ _ _ _ us h => match us, h with | [_, _], _ => rfl
theorem cp_split_2 (Y : Hy K mg) (A : All call P w K mg base r G) : CallP P w K mg base r G call "split" 22 2 [.at_ 0, .at_ 1] := callP A.split Y.m_split rfl rfl rfl fun _ _ _ _ _ _ us h => match us, h with | [_, _], _ => rfl
theorem cp_split_of_2 (Y : Hy K mg) (A : All call P w K mg base r G) : CallP P w K mg base r G call "split_of" 13 2 [.at_ 0, .at_ 1] := callP A.split_of Y.m_split_of rfl rfl rfl fun _ _ _ _ _ _ us h => match us, h with | [_, _], _ => rfl
theorem cp_times_2 (Y : Hy K mg) (A : All call P w K mg base r G) : CallP P w K mg base r G call "times" 15 2 [.at_ 0, .at_ 1] := callP A.times Y.m_times rfl rfl rfl fun _ _ _ _ _ _ us h => match us, h with | [_, _], _ => rfl
theorem cp_two_clash_2 (Y : Hy K mg) (A : All call P w K mg base r G) : CallP P w K mg base r G call "two_clash" 12 2 [.at_ 0, .at_ 1] := callP A.two_clash Y.m_two_clash rfl rfl rfl fun _ _ _ _ _ _ us h => match us, h with | [_, _], _ => rfl
theorem cp_want_at_most_3 (Y : Hy K mg) (A : All call P w K mg base r G) : CallP P w K mg base r G call "want_at_most" 4 3 [.at_ 0, .at_ 1, .at_ 2] := callP A.want_at_most Y.m_want_at_most rfl rfl rfl fun _ _ _ _ _ _ us h => match us, h with | [_, _, _], _ => rfl
theorem cp_want_many_2 (Y : Hy K mg) (A : All call P w K mg base r G) : CallP P w K mg base r G call "want_many" 3 2 [.at_ 0, .at_ 1, .dv (.int (.ofNat 0))] := callD (is := [0]) (q := 0) A.want_many Y.m_want_many rfl (by simp) rfl rfl fun _ _ _ _ _ _ _ us its h1 h2 => match us, its, h1, h2 with | [_, _], [_], _, _ => ⟨_, rfl, rfl⟩
theorem cp_want_size_1 (Y : Hy K mg) (A : All call P w K mg base r G) : CallP P w K mg base r G call "want_size" 6 1 [.at_ 0] := callP A.want_size Y.m_want_size rfl rfl rfl fun _ _ _ _ _ _ us h => match us, h with | [_], _ => rfl
theorem cp_want_word_2 (Y : Hy K mg) (A : All call P w K mg base r G) : CallP P w K mg base r G call "want_word" 8 2 [.at_ 0, .at_ 1] := callP A.want_word Y.m_want_word rfl rfl rfl fun _ _ _ _ _ _ us h => match us, h with | [_, _], _ => rfl
theorem cp_want_words_2 (Y : Hy K mg) (A : All call P w K mg base r G) : CallP P w K mg base r G call "want_words" 10 2 [.at_ 0, .at_ 1] := callP A.want_words Y.m_want_words rfl rfl rfl fun _ _ _ _ _ _ us h => match us, h with | [_, _], _ => rfl
theorem cp_word_at_3 (Y : Hy K mg) (A : All call P w K mg base r G) : CallP P w K mg base r G call "word_at" 25 3 [.at_ 0, .at_ 1, .at_ 2] := callP A.word_at Y.m_word_at rfl rfl rfl fun _ _ _ _ _ _ us h => match us, h with | [_, _, _], _ => rfl
theorem cp_word_by_3 (Y : Hy K mg) (A : All call P w K mg base r G) : CallP P w K mg base r G call "word_by" 18 3 [.at_ 0, .at_ 1, .at_ 2] := callP A.word_by Y.m_word_by rfl rfl rfl fun _ _ _ _ _ _ us h => match us, h with | [_, _, _], _ => rfl
theorem cp_word_number_2 (Y : Hy K mg) (A : All call P w K mg base r G) : CallP P w K mg base r G call "word_number" 24 2 [.at_ 0, .at_ 1] := callP A.word_number Y.m_word_number rfl rfl rfl fun _ _ _ _ _ _ us h => match us, h with | [_, _], _ => rfl
theorem ck_all_words_0_length_size (Y : Hy K mg) (A : All call P w K mg base r G) : CallK P w K mg base r G call "all_words" 26 0 2 ["length", "size"] [.at_ 1, .at_ 0] := callKw (ix := [1, 0]) A.all_words Y.m_all_words rfl rfl fun _ _ _ _ _ _ us ws h1 h2 => match us, ws, h1, h2 with | [], [_, _], _, _ => rfl
theorem ck_are_apart_0_words_size (Y : Hy K mg) (A : All call P w K mg base r G) : CallK P w K mg base r G call "are_apart" 21 0 2 ["words", "size"] [.at_ 1, .at_ 0] := callKw (ix := [1, 0]) A.are_apart Y.m_are_apart rfl rfl fun _ _ _ _ _ _ us ws h1 h2 => match us, ws, h1, h2 with | [], [_, _], _, _ => rfl
theorem ck_common_beginning_0_other_word_size (Y : Hy K mg) (A : All call P w K mg base r G) : CallK P w K mg base r G call "common_beginning" 23 0 3 ["other", "word", "size"] [.at_ 2, .at_ 1, .at_ 0] := callKw (ix := [2, 1, 0]) A.common_beginning Y.m_common_beginning rfl rfl fun _ _ _ _ _ _ us ws h1 h2 => match us, ws, h1, h2 with | [], [_, _, _], _, _ => rfl
theorem ck_does_begin_0_other_word_size (Y : Hy K mg) (A : All call P w K mg base r G) : CallK P w K mg base r G call "does_begin" 20 0 3 ["other", "word", "size"] [.at_ 2, .at_ 1, .at_ 0] := callKw (ix := [2, 1, 0]) A.does_begin Y.m_does_begin rfl rfl fun _ _ _ _ _ _ us ws h1 h2 => match us, ws, h1, h2 with | [], [_, _, _], _, _ => rfl
theorem ck_split_0_word_size (Y : Hy K mg) (A : All call P w K mg base r G) : CallK P w K mg base r G call "split" 22 0 2 ["word", "size"] [.at_ 1, .at_ 0] := callKw (ix := [1, 0]) A.split Y.m_split rfl rfl fun _ _ _ _ _ _ us ws h1 h2 => match us, ws, h1, h2 with | [], [_, _], _, _ => rfl
theorem ck_word_at_0_number_length_size (Y : Hy K mg) (A : All call P w K mg base r G) : CallK P w K mg base r G call "word_at" 25 0 3 ["number", "length", "size"] [.at_ 2, .at_ 1, .at_ 0] := callKw (ix := [2, 1, 0]) A.word_at Y.m_word_at rfl rfl fun _ _ _ _ _ _ us ws h1 h2 => match us, ws, h1, h2 with | [], [_, _, _], _, _ => rfl
theorem ck_word_number_0_word_size (Y : Hy K mg) (A : All call P w K mg base r G) : CallK P w K mg base r G call "word_number" 24 0 2 ["word", "size"] [.at_ 1, .at_ 0] := callKw (ix := [1, 0]) A.word_number Y.m_word_number rfl rfl fun _ _ _ _ _ _ us ws h1 h2 => match us, ws, h1, h2 with | [], [_, _], _, _ => rfl
theorem ok_is_integer (hj : ∀ ds dh kx kk, call2 0 ds dh kx kk = true → runFn call (.body 1 [] 0 b_is_integer) ds dh kx kk = true) (Y : Hy K mg) (hG : G.K = K ∧ G.w = w ∧ G.gd = true) (A : All call P w K mg base r G) : DOk P w K mg base (r + 1) G call2 0 d_is_integer ["value"] :=
  dok_gen (b := b_is_integer) Y.F_is_integer sc_is_integer ⟨hG.1, hG.2.1⟩ rfl hj fun f A0 outer s0 H0 E cdv n0 W p0 => (s_one (s_ret (se_and (x_isin Y.no_isinstance x_v (x_ty Y.no_int) (by decide +kernel)) (se_one (se_not (x_isin Y.no_isinstance x_v (x_ty Y.no_bool) (by decide +kernel)))))))
theorem ok_is_count (hj : ∀ ds dh kx kk, call2 1 ds dh kx kk = true → runFn call (.body 1 [] 0 b_is_count) ds dh kx kk = true) (Y : Hy K mg) (hG : G.K = K ∧ G.w = w ∧ G.gd = true) (A : All call P w K mg base r G) : DOk P w K mg base (r + 1) G call2 1 d_is_count ["value"] :=
  dok_gen (b := b_is_count) Y.F_is_count sc_is_count ⟨hG.1, hG.2.1⟩ rfl hj fun f A0 outer s0 H0 E cdv n0 W p0 => (s_one (s_ret (se_and (x_call (cp_is_integer_1 Y A) (x_c x_v ss_nil)) (se_one (x_cmp (n := 1) (ok_ge p0.hu) x_v se_int)))))
theorem ok_is_list (hj : ∀ ds dh kx kk, call2 2 ds dh kx kk = true → runFn call (.body 1 [] 0 b_is_list) ds dh kx kk = true) (Y : Hy K mg) (hG : G.K = K ∧ G.w = w ∧ G.gd = true) (A : All call P w K mg base r G) : DOk P w K mg base (r + 1) G call2 2 d_is_list ["value"] :=
  dok_gen (b := b_is_list) Y.F_is_list sc_is_list ⟨hG.1, hG.2.1⟩ rfl hj fun f A0 outer s0 H0 E cdv n0 W p0 => (s_one (s_ret (x_isinT Y.no_isinstance x_v (ty_cons Y.no_list (ty_cons Y.no_tuple ty_nil)) (by decide +kernel))))
theorem ok_want_many (hj : ∀ ds dh kx kk, call2 3 ds dh kx kk = true → runFn call (.body 3 [] 0 b_want_many) ds dh kx kk = true) (Y : Hy K mg) (hG : G.K = K ∧ G.w = w ∧ G.gd = true) (A : All call P w K mg base r G) : DOk P w K mg base (r + 1) G call2 3 d_want_many ["value", "most", "least"] :=
  dok_gen (b := b_want_many) Y.F_want_many sc_want_many ⟨hG.1, hG.2.1⟩ rfl hj fun f A0 outer s0 H0 E cdv n0 W p0 => (s_one (s_if (y_w (st_or (st_not (y_val (x_call (cp_is_count_1 Y A) (x_c x_v ss_nil)))) (st_or1 (st_not (y_chain (n := 1) (ok_le p0.hu) (ok_le p0.hu) x_v x_v x_v))))) (s_one s_no) s_nil))
theorem ok_want_at_most (hj : ∀ ds dh kx kk, call2 4 ds dh kx kk = true → runFn call (.body 3 [] 0 b_want_at_most) ds dh kx kk = true) (Y : Hy K mg) (hG : G.K = K ∧ G.w = w ∧ G.gd = true) (A : All call P w K mg base r G) : DOk P w K mg base (r + 1) G call2 4 d_want_at_most ["what", "limit", "number"] :=
  dok_gen (b := b_want_at_most) Y.F_want_at_most sc_want_at_most ⟨hG.1, hG.2.1⟩ rfl hj fun f A0 outer s0 H0 E cdv n0 W p0 => (s_one (s_if (y_cmp (n := 1) (ok_gt p0.hu) x_v x_v) (s_one s_no) s_nil))
theorem ok_is_size_value (hj : ∀ ds dh kx kk, call2 5 ds dh kx kk = true → runFn call (.body 1 [] 0 b_is_size_value) ds dh kx kk = true) (Y : Hy K mg) (hG : G.K = K ∧ G.w = w ∧ G.gd = true) (A : All call P w K mg base r G) : DOk P w K mg base (r + 1) G call2 5 d_is_size_value ["value"] :=
  dok_gen (b := b_is_size_value) Y.F_is_size_value sc_is_size_value ⟨hG.1, hG.2.1⟩ rfl hj fun f A0 outer s0 H0 E cdv n0 W p0 => (s_one (s_ret (se_and (x_call (cp_is_integer_1 Y A) (x_c x_v ss_nil)) (se_one (x_chain (n := 1) (ok_le p0.hu) (ok_le p0.hu) (x_gi Y.c_LEAST_SIZE) x_v (x_gi Y.c_MOST_SIZE))))))
theorem ok_want_size (hj : ∀ ds dh kx kk, call2 6 ds dh kx kk = true → runFn call (.body 1 [] 0 b_want_size) ds dh kx kk = true) (Y : Hy K mg) (hG : G.K = K ∧ G.w = w ∧ G.gd = true) (A : All call P w K mg base r G) : DOk P w K mg base (r + 1) G call2 6 d_want_size ["size"] :=
  dok_gen (b := b_want_size) Y.F_want_size sc_want_size ⟨hG.1, hG.2.1⟩ rfl hj fun f A0 outer s0 H0 E cdv n0 W p0 => (s_one (s_if (st_not (y_val (x_call (cp_is_size_value_1 Y A) (x_c x_v ss_nil)))) (s_one s_no) s_nil))
theorem ok_is_word_value (hj : ∀ ds dh kx kk, call2 7 ds dh kx kk = true → runFn call (.body 2 [] 1 b_is_word_value) ds dh kx kk = true) (Y : Hy K mg) (hG : G.K = K ∧ G.w = w ∧ G.gd = true) (A : All call P w K mg base r G) : DOk P w K mg base (r + 1) G call2 7 d_is_word_value ["size", "value"] :=
  dok_gen (b := b_is_word_value) Y.F_is_word_value sc_is_word_value ⟨hG.1, hG.2.1⟩ rfl hj fun f A0 outer s0 H0 E cdv n0 W p0 => (s_cons (s_if (y_w (st_or (st_not (y_val (x_isin Y.no_isinstance x_v (x_ty Y.no_tuple) (by decide +kernel)))) (st_or1 (y_cmp (n := 1) (ok_gt p0.hu) (x_b Y.no_len ok_len (x_c x_v ss_nil)) (x_gi Y.c_MOST_LETTERS))))) (s_one (s_ret se_bl)) s_nil) (s_one (s_ret (x_b Y.no_all (ok_all rfl) (x_c (x_lc (own := [("one", 2)]) (cs' := []) (si_seq x_v) (inBlk fun s1 H1 fp1 n1 W1 p1 => ⟨g_n, (se_and (x_call (cp_is_integer_1 Y A) (x_c x_v ss_nil)) (se_one (x_chain (n := 1) (ok_le p1.hu) (ok_lt p1.hu) se_int x_v x_v))), trivial⟩)) ss_nil)))))
theorem ok_want_word (hj : ∀ ds dh kx kk, call2 8 ds dh kx kk = true → runFn call (.body 2 [] 0 b_want_word) ds dh kx kk = true) (Y : Hy K mg) (hG : G.K = K ∧ G.w = w ∧ G.gd = true) (A : All call P w K mg base r G) : DOk P w K mg base (r + 1) G call2 8 d_want_word ["size", "value"] :=
  dok_gen (b := b_want_word) Y.F_want_word sc_want_word ⟨hG.1, hG.2.1⟩ rfl hj fun f A0 outer s0 H0 E cdv n0 W p0 => (s_one (s_if (st_not (y_val (x_call (cp_is_word_value_2 Y A) (x_c x_v (x_c x_v ss_nil))))) (s_one s_no) s_nil))
theorem ok_are_words_value (hj : ∀ ds dh kx kk, call2 9 ds dh kx kk = true → runFn call (.body 2 [] 1 b_are_words_value) ds dh kx kk = true) (Y : Hy K mg) (hG : G.K = K ∧ G.w = w ∧ G.gd = true) (A : All call P w K mg base r G) : DOk P w K mg base (r + 1) G call2 9 d_are_words_value ["size", "value"] :=
  dok_gen (b := b_are_words_value) Y.F_are_words_value sc_are_words_value ⟨hG.1, hG.2.1⟩ rfl hj fun f A0 outer s0 H0 E cdv n0 W p0 => (s_one (s_ret (se_and (x_call (cp_is_list_1 Y A) (x_c x_v ss_nil)) (se_and (x_cmp (n := 1) (ok_le p0.hu) (x_b Y.no_len ok_len (x_c x_v ss_nil)) (x_gi Y.c_MOST_WORDS)) (se_one (x_b Y.no_all (ok_all rfl) (x_c (x_lc (own := [("one", 2)]) (cs' := []) (si_seq x_v) (inBlk fun s1 H1 fp1 n1 W1 p1 => ⟨g_n, (x_call (cp_is_word_value_2 Y A) (x_c x_v (x_c x_v ss_nil))), trivial⟩)) ss_nil)))))))
theorem ok_want_words (hj : ∀ ds dh kx kk, call2 10 ds dh kx kk = true → runFn call (.body 2 [] 0 b_want_words) ds dh kx kk = true) (Y : Hy K mg) (hG : G.K = K ∧ G.w = w ∧ G.gd = true) (A : All call P w K mg base r G) : DOk P w K mg base (r + 1) G call2 10 d_want_words ["size", "value"] :=
  dok_gen (b := b_want_words) Y.F_want_words sc_want_words ⟨hG.1, hG.2.1⟩ rfl hj fun f A0 outer s0 H0 E cdv n0 W p0 => (s_one (s_if (st_not (y_val (x_call (cp_are_words_value_2 Y A) (x_c x_v (x_c x_v ss_nil))))) (s_one s_no) s_nil))
theorem ok_begins (hj : ∀ ds dh kx kk, call2 11 ds dh kx kk = true → runFn call (.body 2 [] 0 b_begins) ds dh kx kk = true) (Y : Hy K mg) (hG : G.K = K ∧ G.w = w ∧ G.gd = true) (A : All call P w K mg base r G) : DOk P w K mg base (r + 1) G call2 11 d_begins ["word", "other"] :=
  dok_gen (b := b_begins) Y.F_begins sc_begins ⟨hG.1, hG.2.1⟩ rfl hj fun f A0 outer s0 H0 E cdv n0 W p0 => (s_one (s_ret (x_cmp (n := 1) (ok_eq p0.hu) (se_slice x_v so_no (so_ex (x_b Y.no_len ok_len (x_c x_v ss_nil)))) x_v)))
theorem ok_two_clash (hj : ∀ ds dh kx kk, call2 12 ds dh kx kk = true → runFn call (.body 2 [] 0 b_two_clash) ds dh kx kk = true) (Y : Hy K mg) (hG : G.K = K ∧ G.w = w ∧ G.gd = true) (A : All call P w K mg base r G) : DOk P w K mg base (r + 1) G call2 12 d_two_clash ["word", "other"] :=
  dok_gen (b := b_two_clash) Y.F_two_clash sc_two_clash ⟨hG.1, hG.2.1⟩ rfl hj fun f A0 outer s0 H0 E cdv n0 W p0 => (s_one (s_ret (se_or (x_call (cp_begins_2 Y A) (x_c x_v (x_c x_v ss_nil))) (se_one (x_call (cp_begins_2 Y A) (x_c x_v (x_c x_v ss_nil)))))))
theorem ok_split_of (hj : ∀ ds dh kx kk, call2 13 ds dh kx kk = true → runFn call (.body 2 [] 1 b_split_of) ds dh kx kk = true) (Y : Hy K mg) (hG : G.K = K ∧ G.w = w ∧ G.gd = true) (A : All call P w K mg base r G) : DOk P w K mg base (r + 1) G call2 13 d_split_of ["size", "word"] :=
  dok_gen (b := b_split_of) Y.F_split_of sc_split_of ⟨hG.1, hG.2.1⟩ rfl hj fun f A0 outer s0 H0 E cdv n0 W p0 => (s_one (s_ret (x_lc (own := [("letter", 2)]) (cs' := []) (i_rng1 Y.no_range (x_c x_v ss_nil)) (inBlk fun s1 H1 fp1 n1 W1 p1 => ⟨g_n, (se_bin ok_add x_v (x_tup (x_c x_v ss_nil))), trivial⟩))))
theorem ok_common_of (hj : ∀ ds dh kx kk, call2 14 ds dh kx kk = true → runFn call (.body 2 [] 1 b_common_of) ds dh kx kk = true) (Y : Hy K mg) (hG : G.K = K ∧ G.w = w ∧ G.gd = true) (A : All call P w K mg base r G) : DOk P w K mg base (r + 1) G call2 14 d_common_of ["word", "other"] :=
  dok_gen (b := b_common_of) Y.F_common_of sc_common_of ⟨hG.1, hG.2.1⟩ rfl hj fun f A0 outer s0 H0 E cdv n0 W p0 => (s_cons (z_asg (ss := [2]) se_int g_n) (s_cons (z_while (y_w (st_and (y_cmp (n := 1) (ok_lt p0.hu) x_v (x_b Y.no_min (ok_min rfl) (x_c (x_b Y.no_len ok_len (x_c x_v ss_nil)) (x_c (x_b Y.no_len ok_len (x_c x_v ss_nil)) ss_nil)))) (st_and1 (y_cmp (n := 1) (ok_eq p0.hu) (x_ix x_v x_v (fun _ _ => rfl)) (x_ix x_v x_v (fun _ _ => rfl)))))) (s_one (z_asg (ss := [2]) (se_bin ok_add x_v se_int) g_n))) (s_one (s_ret (se_slice x_v so_no (so_ex x_v))))))
theorem ok_times (hj : ∀ ds dh kx kk, call2 15 ds dh kx kk = true → runFn call (.body 2 [] 2 b_times) ds dh kx kk = true) (Y : Hy K mg) (hG : G.K = K ∧ G.w = w ∧ G.gd = true) (A : All call P w K mg base r G) : DOk P w K mg base (r + 1) G call2 15 d_times ["size", "many"] :=
  dok_gen (b := b_times) Y.F_times sc_times ⟨hG.1, hG.2.1⟩ rfl hj fun f A0 outer s0 H0 E cdv n0 W p0 => (s_cons (z_asg (ss := [2]) se_int g_n) (s_cons (z_for (ss := [3]) (i_rng1 Y.no_range (x_c x_v ss_nil)) g_n (s_one (z_asg (ss := [2]) (se_bin ok_mul x_v x_v) g_n))) (s_one (s_ret x_v))))
theorem ok_first_clash (hj : ∀ ds dh kx kk, call2 16 ds dh kx kk = true → runFn call (.body 1 [] 4 b_first_clash) ds dh kx kk = true) (Y : Hy K mg) (hG : G.K = K ∧ G.w = w ∧ G.gd = true) (A : All call P w K mg base r G) : DOk P w K mg base (r + 1) G call2 16 d_first_clash ["words"] :=
  dok_gen (b := b_first_clash) Y.F_first_clash sc_first_clash ⟨hG.1, hG.2.1⟩ rfl hj fun f A0 outer s0 H0 E cdv n0 W p0 => (s_cons (z_for (ss := [1, 2]) (i_enum Y.no_enumerate (x_c x_v ss_nil)) (g_tup (g_c g_n (g_c g_n sg_nil))) (s_cons (z_lcC (own := [("other", 4)]) (cs' := []) (i_rng2 Y.no_range (x_c (se_bin ok_add x_v se_int) (x_c (x_b Y.no_len ok_len (x_c x_v ss_nil)) ss_nil))) (inBlk fun s1 H1 fp1 n1 W1 p1 => ⟨g_n, x_v, (pts_one (y_val (x_call (cp_two_clash_2 Y A) (x_c x_v (x_c (x_ix x_v x_v (fun _ _ => rfl)) ss_nil)))))⟩)) (s_one (s_if (y_cmp (n := 1) (ok_ne p0.hu) x_v (x_lst ss_nil)) (s_one (s_ret (x_tup (x_c x_v (x_c (x_ix x_v se_int (fun _ _ => rfl)) ss_nil))))) s_nil)))) (s_one (s_ret se_non)))
theorem ok_number_of (hj : ∀ ds dh kx kk, call2 17 ds dh kx kk = true → runFn call (.body 2 [] 2 b_number_of) ds dh kx kk = true) (Y : Hy K mg) (hG : G.K = K ∧ G.w = w ∧ G.gd = true) (A : All call P w K mg base r G) : DOk P w K mg base (r + 1) G call2 17 d_number_of ["size", "word"] :=
  dok_gen (b := b_number_of) Y.F_number_of sc_number_of ⟨hG.1, hG.2.1⟩ rfl hj fun f A0 outer s0 H0 E cdv n0 W p0 => (s_cons (z_asg (ss := [2]) se_int g_n) (s_cons (z_for (ss := [3]) (si_seq x_v) g_n (s_one (z_asg (ss := [2]) (se_bin ok_add (se_bin ok_mul x_v x_v) x_v) g_n))) (s_one (s_ret x_v))))
theorem ok_word_by (hj : ∀ ds dh kx kk, call2 18 ds dh kx kk = true → runFn call (.body 3 [] 3 b_word_by) ds dh kx kk = true) (Y : Hy K mg) (hG : G.K = K ∧ G.w = w ∧ G.gd = true) (A : All call P w K mg base r G) : DOk P w K mg base (r + 1) G call2 18 d_word_by ["size", "length", "number"] :=
  dok_gen (b := b_word_by) Y.F_word_by sc_word_by ⟨hG.1, hG.2.1⟩ rfl hj fun f A0 outer s0 H0 E cdv n0 W p0 => (s_cons (z_par2 (x_c (x_tup ss_nil) (x_c x_v ss_nil))) (s_cons (z_for (ss := [5]) (i_rng1 Y.no_range (x_c x_v ss_nil)) g_n (s_cons (z_asg (ss := [3]) (se_bin ok_add (x_tup (x_c (se_bin0 ok_sub x_v (se_bin ok_mul x_v (se_bin0 ok_fdiv x_v x_v))) ss_nil)) x_v) g_n) (s_one (z_asg (ss := [4]) (se_bin0 ok_fdiv x_v x_v) g_n)))) (s_one (s_ret x_v))))
theorem ok_is_word (hj : ∀ ds dh kx kk, call2 19 ds dh kx kk = true → runFn call (.body 2 [] 0 b_is_word) ds dh kx kk = true) (Y : Hy K mg) (hG : G.K = K ∧ G.w = w ∧ G.gd = true) (A : All call P w K mg base r G) : DOk P w K mg base (r + 1) G call2 19 d_is_word ["size", "value"] :=
  dok_gen (b := b_is_word) Y.F_is_word sc_is_word ⟨hG.1, hG.2.1⟩ rfl hj fun f A0 outer s0 H0 E cdv n0 W p0 => (s_cons (z_expr (x_call (cp_want_size_1 Y A) (x_c x_v ss_nil))) (s_one (s_ret (x_call (cp_is_word_value_2 Y A) (x_c x_v (x_c x_v ss_nil))))))
theorem ok_does_begin (hj : ∀ ds dh kx kk, call2 20 ds dh kx kk = true → runFn call (.body 3 [] 0 b_does_begin) ds dh kx kk = true) (Y : Hy K mg) (hG : G.K = K ∧ G.w = w ∧ G.gd = true) (A : All call P w K mg base r G) : DOk P w K mg base (r + 1) G call2 20 d_does_begin ["size", "word", "other"] :=
  dok_gen (b := b_does_begin) Y.F_does_begin sc_does_begin ⟨hG.1, hG.2.1⟩ rfl hj fun f A0 outer s0 H0 E cdv n0 W p0 => (s_cons (z_expr (x_call (cp_want_size_1 Y A) (x_c x_v ss_nil))) (s_cons (z_expr (x_call (cp_want_word_2 Y A) (x_c x_v (x_c x_v ss_nil)))) (s_cons (z_expr (x_call (cp_want_word_2 Y A) (x_c x_v (x_c x_v ss_nil)))) (s_one (s_ret (x_call (cp_begins_2 Y A) (x_c x_v (x_c x_v ss_nil))))))))
theorem ok_are_apart (hj : ∀ ds dh kx kk, call2 21 ds dh kx kk = true → runFn call (.body 2 [] 0 b_are_apart) ds dh kx kk = true) (Y : Hy K mg) (hG : G.K = K ∧ G.w = w ∧ G.gd = true) (A : All call P w K mg base r G) : DOk P w K mg base (r + 1) G call2 21 d_are_apart ["size", "words"] :=
  dok_gen (b := b_are_apart) Y.F_are_apart sc_are_apart ⟨hG.1, hG.2.1⟩ rfl hj fun f A0 outer s0 H0 E cdv n0 W p0 => (s_cons (z_expr (x_call (cp_want_size_1 Y A) (x_c x_v ss_nil))) (s_cons (z_expr (x_call (cp_want_words_2 Y A) (x_c x_v (x_c x_v ss_nil)))) (s_one (s_ret (x_cmp (n := 1) ok_is (x_call (cp_first_clash_1 Y A) (x_c x_v ss_nil)) se_non)))))
theorem ok_split (hj : ∀ ds dh kx kk, call2 22 ds dh kx kk = true → runFn call (.body 2 [] 0 b_split) ds dh kx kk = true) (Y : Hy K mg) (hG : G.K = K ∧ G.w = w ∧ G.gd = true) (A : All call P w K mg base r G) : DOk P w K mg base (r + 1) G call2 22 d_split ["size", "word"] :=
  dok_gen (b := b_split) Y.F_split sc_split ⟨hG.1, hG.2.1⟩ rfl hj fun f A0 outer s0 H0 E cdv n0 W p0 => (s_cons (z_expr (x_call (cp_want_size_1 Y A) (x_c x_v ss_nil))) (s_cons (z_expr (x_call (cp_want_word_2 Y A) (x_c x_v (x_c x_v ss_nil)))) (s_cons (z_expr (x_call (cp_want_at_most_3 Y A) (x_c se_str (x_c (x_gi Y.c_MOST_LETTERS) (x_c (se_bin ok_add (x_b Y.no_len ok_len (x_c x_v ss_nil)) se_int) ss_nil))))) (s_one (s_ret (x_call (cp_split_of_2 Y A) (x_c x_v (x_c x_v ss_nil))))))))
theorem ok_common_beginning (hj : ∀ ds dh kx kk, call2 23 ds dh kx kk = true → runFn call (.body 3 [] 0 b_common_beginning) ds dh kx kk = true) (Y : Hy K mg) (hG : G.K = K ∧ G.w = w ∧ G.gd = true) (A : All call P w K mg base r G) : DOk P w K mg base (r + 1) G call2 23 d_common_beginning ["size", "word", "other"] :=
  dok_gen (b := b_common_beginning) Y.F_common_beginning sc_common_beginning ⟨hG.1, hG.2.1⟩ rfl hj fun f A0 outer s0 H0 E cdv n0 W p0 => (s_cons (z_expr (x_call (cp_want_size_1 Y A) (x_c x_v ss_nil))) (s_cons (z_expr (x_call (cp_want_word_2 Y A) (x_c x_v (x_c x_v ss_nil)))) (s_cons (z_expr (x_call (cp_want_word_2 Y A) (x_c x_v (x_c x_v ss_nil)))) (s_one (s_ret (x_call (cp_common_of_2 Y A) (x_c x_v (x_c x_v ss_nil))))))))
theorem ok_word_number (hj : ∀ ds dh kx kk, call2 24 ds dh kx kk = true → runFn call (.body 2 [] 0 b_word_number) ds dh kx kk = true) (Y : Hy K mg) (hG : G.K = K ∧ G.w = w ∧ G.gd = true) (A : All call P w K mg base r G) : DOk P w K mg base (r + 1) G call2 24 d_word_number ["size", "word"] :=
  dok_gen (b := b_word_number) Y.F_word_number sc_word_number ⟨hG.1, hG.2.1⟩ rfl hj fun f A0 outer s0 H0 E cdv n0 W p0 => (s_cons (z_expr (x_call (cp_want_size_1 Y A) (x_c x_v ss_nil))) (s_cons (z_expr (x_call (cp_want_word_2 Y A) (x_c x_v (x_c x_v ss_nil)))) (s_one (s_ret (x_call (cp_number_of_2 Y A) (x_c x_v (x_c x_v ss_nil)))))))
theorem ok_word_at (hj : ∀ ds dh kx kk, call2 25 ds dh kx kk = true → runFn call (.body 3 [] 0 b_word_at) ds dh kx kk = true) (Y : Hy K mg) (hG : G.K = K ∧ G.w = w ∧ G.gd = true) (A : All call P w K mg base r G) : DOk P w K mg base (r + 1) G call2 25 d_word_at ["size", "length", "number"] :=
  dok_gen (b := b_word_at) Y.F_word_at sc_word_at ⟨hG.1, hG.2.1⟩ rfl hj fun f A0 outer s0 H0 E cdv n0 W p0 => (s_cons (z_expr (x_call (cp_want_size_1 Y A) (x_c x_v ss_nil))) (s_cons (z_expr (x_call (cp_want_many_2 Y A) (x_c x_v (x_c (x_gi Y.c_MOST_LETTERS) ss_nil)))) (s_cons (s_if (y_w (st_or (st_not (y_val (x_call (cp_is_count_1 Y A) (x_c x_v ss_nil)))) (st_or1 (y_cmp (n := 1) (ok_ge p0.hu) x_v (x_call (cp_times_2 Y A) (x_c x_v (x_c x_v ss_nil))))))) (s_one s_no) s_nil) (s_one (s_ret (x_call (cp_word_by_3 Y A) (x_c x_v (x_c x_v (x_c x_v ss_nil)))))))))
theorem ok_all_words (hj : ∀ ds dh kx kk, call2 26 ds dh kx kk = true → runFn call (.body 2 [] 2 b_all_words) ds dh kx kk = true) (Y : Hy K mg) (hG : G.K = K ∧ G.w = w ∧ G.gd = true) (A : All call P w K mg base r G) : DOk P w K mg base (r + 1) G call2 26 d_all_words ["size", "length"] :=
  dok_gen (b := b_all_words) Y.F_all_words sc_all_words ⟨hG.1, hG.2.1⟩ rfl hj fun f A0 outer s0 H0 E cdv n0 W p0 => (s_cons (z_expr (x_call (cp_want_size_1 Y A) (x_c x_v ss_nil))) (s_cons (z_expr (x_call (cp_want_many_2 Y A) (x_c x_v (x_c (x_gi Y.c_MOST_LETTERS) ss_nil)))) (s_cons (z_asg (ss := [2]) (x_call (cp_times_2 Y A) (x_c x_v (x_c x_v ss_nil))) g_n) (s_cons (z_expr (x_call (cp_want_at_most_3 Y A) (x_c se_str (x_c (x_gi Y.c_MOST_LISTED) (x_c x_v ss_nil))))) (s_one (s_ret (x_lc (own := [("number", 3)]) (cs' := []) (i_rng1 Y.no_range (x_c x_v ss_nil)) (inBlk fun s1 H1 fp1 n1 W1 p1 => ⟨g_n, (x_call (cp_word_by_3 Y A) (x_c x_v (x_c x_v (x_c x_v ss_nil)))), trivial⟩))))))))
theorem ok__law_pot (hj : ∀ ds dh kx kk, call2 27 ds dh kx kk = true → runFn call (.body 2 [] 1 b__law_pot) ds dh kx kk = true) (Y : Hy K mg) (hG : G.K = K ∧ G.w = w ∧ G.gd = true) (A : All call P w K mg base r G) : DOk P w K mg base (r + 1) G call2 27 d__law_pot ["script", "k"] :=
  dok_gen (b := b__law_pot) Y.F__law_pot sc__law_pot ⟨hG.1, hG.2.1⟩ rfl hj fun f A0 outer s0 H0 E cdv n0 W p0 => (s_cons (z_asg (ss := [2]) (se_bin ok_add (se_bin ok_mul se_int x_v) se_int) g_n) (s_cons (s_if (y_cmp (n := 1) (ok_lt p0.hu) x_v (x_lenS Y.no_len x_v)) (s_one (z_asg (ss := [2]) (x_b Y.no_abs ok_abs (x_c (se_ixS x_v x_v (fun _ _ => rfl)) ss_nil)) g_n)) s_nil) (s_one (s_ret (x_lst (x_c (x_b Y.no_max (ok_max rfl) (x_c se_int (x_c (se_bin0 ok_sub x_v (se_bin0 ok_pow se_int se_int)) ss_nil))) (x_c (se_bin ok_add (se_bin0 ok_mod (x_bt Y.no_int ok_int (x_c (se_bin ok_add (se_bin ok_add (se_bin ok_mul (se_bin0 ok_mod (x_bt Y.no_int ok_int (x_c x_v ss_nil)) se_int) se_int) (se_bin ok_mul se_int x_v)) se_int) ss_nil)) se_int) se_int) ss_nil)))))))
theorem ok__law_draw (hj : ∀ ds dh kx kk, call2 28 ds dh kx kk = true → runFn call (.body 2 [] 1 b__law_draw) ds dh kx kk = true) (Y : Hy K mg) (hG : G.K = K ∧ G.w = w ∧ G.gd = true) (A : All call P w K mg base r G) : DOk P w K mg base (r + 1) G call2 28 d__law_draw ["pot", "many"] :=
  dok_gen (b := b__law_draw) Y.F__law_draw sc__law_draw ⟨hG.1, hG.2.1⟩ rfl hj fun f A0 outer s0 H0 E cdv n0 W p0 => (s_cons (s_if (y_cmp (n := 1) (ok_gt p0.hu) (x_ix x_v se_int (fun _ _ => rfl)) se_int) (s_cons (z_asg (ss := [2]) (x_b Y.no_divmod ok_divmod (x_c (x_ix x_v se_int (fun _ _ => rfl)) (x_c x_v ss_nil))) (g_tup (g_c (sg_ix x_v se_int (by intro _; rfl)) (g_c g_n sg_nil)))) (s_one (s_ret x_v))) s_nil) (s_cons (z_asg (ss := []) (se_bin0 ok_mod (x_bt Y.no_int ok_int (x_c (se_bin ok_add (se_bin ok_mul (x_ix x_v se_int (fun _ _ => rfl)) se_int) se_int) ss_nil)) se_int) (sg_ix x_v se_int (by intro _; rfl))) (s_one (s_ret (se_bin0 ok_mod (x_bt Y.no_int ok_int (x_c (se_bin0 ok_fdiv (se_bin0 ok_mod (x_bt Y.no_int ok_int (x_c (se_bin ok_mul (x_ix x_v se_int (fun _ _ => rfl)) (x_ix x_v se_int (fun _ _ => rfl))) ss_nil)) se_int) se_int) ss_nil)) x_v)))))
theorem ok__law_pick (hj : ∀ ds dh kx kk, call2 29 ds dh kx kk = true → runFn call (.body 2 [] 0 b__law_pick) ds dh kx kk = true) (Y : Hy K mg) (hG : G.K = K ∧ G.w = w ∧ G.gd = true) (A : All call P w K mg base r G) : DOk P w K mg base (r + 1) G call2 29 d__law_pick ["pot", "some"] :=
  dok_gen (b := b__law_pick) Y.F__law_pick sc__law_pick ⟨hG.1, hG.2.1⟩ rfl hj fun f A0 outer s0 H0 E cdv n0 W p0 => (s_one (s_ret (x_ix x_v (x_call (cp__law_draw_2 Y A) (x_c x_v (x_c (x_b Y.no_len ok_len (x_c x_v ss_nil)) ss_nil))) (fun _ _ => rfl))))
theorem ok__law_mixed (hj : ∀ ds dh kx kk, call2 30 ds dh kx kk = true → runFn call (.body 2 [] 2 b__law_mixed) ds dh kx kk = true) (Y : Hy K mg) (hG : G.K = K ∧ G.w = w ∧ G.gd = true) (A : All call P w K mg base r G) : DOk P w K mg base (r + 1) G call2 30 d__law_mixed ["pot", "some"] :=
  dok_gen (b := b__law_mixed) Y.F__law_mixed sc__law_mixed ⟨hG.1, hG.2.1⟩ rfl hj fun f A0 outer s0 H0 E cdv n0 W p0 => (s_cons (z_par2 (x_c (x_bt Y.no_list ok_list (x_c x_v ss_nil)) (x_c (x_lst ss_nil) ss_nil))) (s_cons (z_while (y_cmp (n := 1) (ok_ne p0.hu) x_v (x_lst ss_nil)) (s_one (z_expr (x_append x_v (x_c (x_popM x_v (x_c (x_call (cp__law_draw_2 Y A) (x_c x_v (x_c (x_b Y.no_len ok_len (x_c x_v ss_nil)) ss_nil))) ss_nil) (Nat.lt_of_le_of_lt (Nat.add_le_add_left (by decide) _) p0.hu)) ss_nil))))) (s_one (s_ret x_v))))
theorem ok__law_word (hj : ∀ ds dh kx kk, call2 31 ds dh kx kk = true → runFn call (.body 3 [] 1 b__law_word) ds dh kx kk = true) (Y : Hy K mg) (hG : G.K = K ∧ G.w = w ∧ G.gd = true) (A : All call P w K mg base r G) : DOk P w K mg base (r + 1) G call2 31 d__law_word ["pot", "size", "most"] :=
  dok_gen (b := b__law_word) Y.F__law_word sc__law_word ⟨hG.1, hG.2.1⟩ rfl hj fun f A0 outer s0 H0 E cdv n0 W p0 => (s_one (s_ret (x_bt Y.no_tuple ok_tuple (x_c (x_lc (own := [("letter", 3)]) (cs' := []) (i_rng1 Y.no_range (x_c (x_call (cp__law_draw_2 Y A) (x_c x_v (x_c (se_bin ok_add x_v se_int) ss_nil))) ss_nil)) (inBlk fun s1 H1 fp1 n1 W1 p1 => ⟨g_n, (x_call (cp__law_draw_2 Y A) (x_c x_v (x_c x_v ss_nil))), trivial⟩)) ss_nil))))
theorem ok__law_begins (hj : ∀ ds dh kx kk, call2 32 ds dh kx kk = true → runFn call (.body 2 [] 0 b__law_begins) ds dh kx kk = true) (Y : Hy K mg) (hG : G.K = K ∧ G.w = w ∧ G.gd = true) (A : All call P w K mg base r G) : DOk P w K mg base (r + 1) G call2 32 d__law_begins ["word", "other"] :=
  dok_gen (b := b__law_begins) Y.F__law_begins sc__law_begins ⟨hG.1, hG.2.1⟩ rfl hj fun f A0 outer s0 H0 E cdv n0 W p0 => (s_one (s_ret (x_cmp (n := 1) (ok_eq p0.hu) (se_slice x_v so_no (so_ex (x_b Y.no_len ok_len (x_c x_v ss_nil)))) x_v)))
theorem ok__law_clash (hj : ∀ ds dh kx kk, call2 33 ds dh kx kk = true → runFn call (.body 2 [] 0 b__law_clash) ds dh kx kk = true) (Y : Hy K mg) (hG : G.K = K ∧ G.w = w ∧ G.gd = true) (A : All call P w K mg base r G) : DOk P w K mg base (r + 1) G call2 33 d__law_clash ["word", "other"] :=
  dok_gen (b := b__law_clash) Y.F__law_clash sc__law_clash ⟨hG.1, hG.2.1⟩ rfl hj fun f A0 outer s0 H0 E cdv n0 W p0 => (s_one (s_ret (se_or (x_call (cp__law_begins_2 Y A) (x_c x_v (x_c x_v ss_nil))) (se_one (x_call (cp__law_begins_2 Y A) (x_c x_v (x_c x_v ss_nil)))))))
theorem ok__law_full (hj : ∀ ds dh kx kk, call2 34 ds dh kx kk = true → runFn call (.body 4 [] 5 b__law_full) ds dh kx kk = true) (Y : Hy K mg) (hG : G.K = K ∧ G.w = w ∧ G.gd = true) (A : All call P w K mg base r G) : DOk P w K mg base (r + 1) G call2 34 d__law_full ["pot", "size", "splits", "most"] :=
  dok_gen (b := b__law_full) Y.F__law_full sc__law_full ⟨hG.1, hG.2.1⟩ rfl hj fun f A0 outer s0 H0 E cdv n0 W p0 => (s_cons (z_asg (ss := [4]) (x_lst (x_c (x_tup ss_nil) ss_nil)) g_n) (s_cons (z_for (ss := [5]) (i_rng1 Y.no_range (x_c (x_call (cp__law_draw_2 Y A) (x_c x_v (x_c (se_bin ok_add x_v se_int) ss_nil))) ss_nil)) g_n (s_cons (z_asg (ss := [6]) (x_call (cp__law_pick_2 Y A) (x_c x_v (x_c x_v ss_nil))) g_n) (s_one (s_if (y_cmp (n := 1) (ok_lt p0.hu) (x_b Y.no_len ok_len (x_c x_v ss_nil)) x_v) (s_one (z_asg (ss := [4]) (se_bin ok_add (x_lcC (own := [("one", 7)]) (cs' := []) (si_seq x_v) (inBlk fun s1 H1 fp1 n1 W1 p1 => ⟨g_n, x_v, (pts_one (y_cmp (n := 1) (ok_ne p1.hu) x_v x_v))⟩)) (x_lc (own := [("letter", 8)]) (cs' := []) (i_rng1 Y.no_range (x_c x_v ss_nil)) (inBlk fun s1 H1 fp1 n1 W1 p1 => ⟨g_n, (se_bin ok_add x_v (x_tup (x_c x_v ss_nil))), trivial⟩))) g_n)) s_nil)))) (s_one (s_ret (x_b Y.no_sorted ok_sortI (x_c x_v ss_nil))))))
theorem ok__law_cut (hj : ∀ ds dh kx kk, call2 35 ds dh kx kk = true → runFn call (.body 4 [] 3 b__law_cut) ds dh kx kk = true) (Y : Hy K mg) (hG : G.K = K ∧ G.w = w ∧ G.gd = true) (A : All call P w K mg base r G) : DOk P w K mg base (r + 1) G call2 35 d__law_cut ["pot", "size", "splits", "most"] :=
  dok_gen (b := b__law_cut) Y.F__law_cut sc__law_cut ⟨hG.1, hG.2.1⟩ rfl hj fun f A0 outer s0 H0 E cdv n0 W p0 => (s_cons (z_asg (ss := [4, 5]) (x_tup (x_c (x_call (cp__law_full_4 Y A) (x_c x_v (x_c x_v (x_c x_v (x_c x_v ss_nil))))) (x_c (se_bin ok_add se_int (x_call (cp__law_draw_2 Y A) (x_c x_v (x_c se_int ss_nil)))) ss_nil))) (g_tup (g_c g_n (g_c g_n sg_nil)))) (s_one (s_ret (x_lcC (own := [("word", 6)]) (cs' := []) (si_seq x_v) (inBlk fun s1 H1 fp1 n1 W1 p1 => ⟨g_n, x_v, (pts_one (y_w (st_or (y_cmp (n := 1) (ok_eq p1.hu) x_v se_int) (st_or1 (y_cmp (n := 1) (ok_lt p1.hu) (x_call (cp__law_draw_2 Y A) (x_c x_v (x_c se_int ss_nil))) x_v)))))⟩)))))
theorem ok__law_all (hj : ∀ ds dh kx kk, call2 36 ds dh kx kk = true → runFn call (.body 2 [] 5 b__law_all) ds dh kx kk = true) (Y : Hy K mg) (hG : G.K = K ∧ G.w = w ∧ G.gd = true) (A : All call P w K mg base r G) : DOk P w K mg base (r + 1) G call2 36 d__law_all ["size", "many"] :=
  dok_gen (b := b__law_all) Y.F__law_all sc__law_all ⟨hG.1, hG.2.1⟩ rfl hj fun f A0 outer s0 H0 E cdv n0 W p0 => (s_cons (z_asg (ss := [2]) (x_lst (x_c (x_tup ss_nil) ss_nil)) g_n) (s_cons (z_for (ss := [3]) (i_rng1 Y.no_range (x_c x_v ss_nil)) g_n (s_cons (z_asg (ss := [4]) (x_lst ss_nil) g_n) (s_cons (z_for (ss := [5]) (si_seq x_v) g_n (s_one (z_expr (x_extend x_v (x_c (x_lc (own := [("letter", 6)]) (cs' := []) (i_rng1 Y.no_range (x_c x_v ss_nil)) (inBlk fun s1 H1 fp1 n1 W1 p1 => ⟨g_n, (se_bin ok_add x_v (x_tup (x_c x_v ss_nil))), trivial⟩)) ss_nil))))) (s_one (z_asg (ss := [2]) x_v g_n))))) (s_one (s_ret x_v))))
theorem ok__law_least (hj : ∀ ds dh kx kk, call2 37 ds dh kx kk = true → runFn call (.body 2 [] 6 b__law_least) ds dh kx kk = true) (Y : Hy K mg) (hG : G.K = K ∧ G.w = w ∧ G.gd = true) (A : All call P w K mg base r G) : DOk P w K mg base (r + 1) G call2 37 d__law_least ["size", "words"] :=
  dok_gen (b := b__law_least) Y.F__law_least sc__law_least ⟨hG.1, hG.2.1⟩ rfl hj fun f A0 outer s0 H0 E cdv n0 W p0 => (s_cons (z_asg (ss := [2, 3]) (x_tup (x_c (x_bt Y.no_list ok_list (x_c x_v ss_nil)) (x_c se_bl ss_nil))) (g_tup (g_c g_n (g_c g_n sg_nil)))) (s_cons (z_while (y_val x_v) (s_cons (z_asg (ss := [3]) se_bl g_n) (s_one (z_for (ss := [4]) (si_seq (x_b Y.no_sorted ok_sortI (x_c x_v ss_nil))) g_n (s_cons (z_asg (ss := [5]) (x_lc (own := [("letter", 6)]) (cs' := []) (i_rng1 Y.no_range (x_c x_v ss_nil)) (inBlk fun s1 H1 fp1 n1 W1 p1 => ⟨g_n, (se_bin ok_add (se_slice x_v so_no (so_ex (se_neg se_int))) (x_tup (x_c x_v ss_nil))), trivial⟩)) g_n) (s_one (s_if (y_w (st_and (st_not (y_val x_v)) (st_and (y_cmp (n := 1) (ok_ne p0.hu) x_v (x_tup ss_nil)) (st_and1 (y_val (x_b Y.no_all (ok_all rfl) (x_c (x_lc (own := [("one", 7)]) (cs' := []) (si_seq x_v) (inBlk fun s1 H1 fp1 n1 W1 p1 => ⟨g_n, (x_cmp (n := 1) (ok_in p1.hu) x_v x_v), trivial⟩)) ss_nil))))))) (s_cons (z_asg (ss := [2]) (se_bin ok_add (x_lcC (own := [("one", 7)]) (cs' := []) (si_seq x_v) (inBlk fun s1 H1 fp1 n1 W1 p1 => ⟨g_n, x_v, (pts_one (y_cmp (n := 1) (ok_notin p1.hu) x_v x_v))⟩)) (x_lst (x_c (se_slice x_v so_no (so_ex (se_neg se_int))) ss_nil))) g_n) (s_one (z_asg (ss := [3]) se_bl g_n))) s_nil))))))) (s_one (s_ret (x_b Y.no_sorted ok_sortI (x_c x_v ss_nil))))))
theorem ok__law_common (hj : ∀ ds dh kx kk, call2 38 ds dh kx kk = true → runFn call (.body 2 [] 3 b__law_common) ds dh kx kk = true) (Y : Hy K mg) (hG : G.K = K ∧ G.w = w ∧ G.gd = true) (A : All call P w K mg base r G) : DOk P w K mg base (r + 1) G call2 38 d__law_common ["word", "other"] :=
  dok_gen (b := b__law_common) Y.F__law_common sc__law_common ⟨hG.1, hG.2.1⟩ rfl hj fun f A0 outer s0 H0 E cdv n0 W p0 => (s_cons (z_asg (ss := [2]) (x_tup ss_nil) g_n) (s_cons (z_for (ss := [3, 4]) (i_zip Y.no_zip (x_c x_v (x_c x_v ss_nil))) (g_tup (g_c g_n (g_c g_n sg_nil))) (s_cons (s_if (y_cmp (n := 1) (ok_ne p0.hu) x_v x_v) (s_one (s_ret x_v)) s_nil) (s_one (z_asg (ss := [2]) (se_bin ok_add x_v (x_tup (x_c x_v ss_nil))) g_n)))) (s_one (s_ret x_v))))
theorem ok__law_two_right (hj : ∀ ds dh kx kk, call2 39 ds dh kx kk = true → runFn call (.body 3 [] 4 b__law_two_right) ds dh kx kk = true) (Y : Hy K mg) (hG : G.K = K ∧ G.w = w ∧ G.gd = true) (A : All call P w K mg base r G) : DOk P w K mg base (r + 1) G call2 39 d__law_two_right ["size", "word", "other"] :=
  dok_gen (b := b__law_two_right) Y.F__law_two_right sc__law_two_right ⟨hG.1, hG.2.1⟩ rfl hj fun f A0 outer s0 H0 E cdv n0 W p0 => (s_cons (z_par2 (x_c (x_b Y.no_repr (ok_repr p0.hu (p0.hg hG.2.2)) (x_c (x_lst (x_c x_v (x_c x_v ss_nil))) ss_nil)) (x_c (x_call (cp__law_common_2 Y A) (x_c x_v (x_c x_v ss_nil))) ss_nil))) (s_cons (s_if (y_cmp (n := 1) (ok_ne p0.hu) (x_b Y.no_repr (ok_repr p0.hu (p0.hg hG.2.2)) (x_c (x_lst (x_c (x_call (cp_common_beginning_3 Y A) (x_c x_v (x_c x_v (x_c x_v ss_nil)))) (x_c (x_callK0 (ck_common_beginning_0_other_word_size Y A) (sk_cons x_v (sk_cons x_v (sk_cons x_v sk_nil)))) ss_nil))) ss_nil)) (x_b Y.no_repr (ok_repr p0.hu (p0.hg hG.2.2)) (x_c (x_lst (x_c x_v (x_c x_v ss_nil))) ss_nil))) (s_one (s_ret se_bl)) s_nil) (s_cons (z_asg (ss := [5]) (se_and (x_cmp (n := 1) (ok_le p0.hu) (x_b Y.no_len ok_len (x_c x_v ss_nil)) (x_b Y.no_len ok_len (x_c x_v ss_nil))) (se_one (x_cmp (n := 1) (ok_eq p0.hu) (se_slice x_v so_no (so_ex (x_b Y.no_len ok_len (x_c x_v ss_nil)))) x_v))) g_n) (s_cons (s_if (y_cmp (n := 1) (ok_ne p0.hu) (x_b Y.no_repr (ok_repr p0.hu (p0.hg hG.2.2)) (x_c (x_lst (x_c (x_call (cp_does_begin_3 Y A) (x_c x_v (x_c x_v (x_c x_v ss_nil)))) (x_c (x_callK0 (ck_does_begin_0_other_word_size Y A) (sk_cons x_v (sk_cons x_v (sk_cons x_v sk_nil)))) ss_nil))) ss_nil)) (x_b Y.no_repr (ok_repr p0.hu (p0.hg hG.2.2)) (x_c (x_lst (x_c x_v (x_c x_v ss_nil))) ss_nil))) (s_one (s_ret se_bl)) s_nil) (s_cons (z_asg (ss := [6]) (se_or x_v (se_one (x_call (cp_does_begin_3 Y A) (x_c x_v (x_c x_v (x_c x_v ss_nil)))))) g_n) (s_cons (s_if (y_w (st_or (y_cmp (n := 1) (ok_eq p0.hu) (x_call (cp_are_apart_2 Y A) (x_c x_v (x_c (x_lst (x_c x_v (x_c x_v ss_nil))) ss_nil))) x_v) (st_or (y_cmp (n := 1) (ok_ne p0.hu) (x_cmp (n := 1) (ok_eq p0.hu) x_v x_v) x_v) (st_or1 (y_cmp (n := 1) (ok_ne p0.hu) (x_b Y.no_repr (ok_repr p0.hu (p0.hg hG.2.2)) (x_c (x_lst (x_c x_v (x_c x_v ss_nil))) ss_nil)) x_v))))) (s_one (s_ret se_bl)) s_nil) (s_one (s_ret (x_cmp (n := 1) (ok_eq p0.hu) (x_callK0 (ck_are_apart_0_words_size Y A) (sk_cons (x_tup (x_c x_v (x_c x_v ss_nil))) (sk_cons x_v sk_nil))) (se_not x_v))))))))))
theorem ok__law_numbers_right (hj : ∀ ds dh kx kk, call2 40 ds dh kx kk = true → runFn call (.body 2 [] 8 b__law_numbers_right) ds dh kx kk = true) (Y : Hy K mg) (hG : G.K = K ∧ G.w = w ∧ G.gd = true) (A : All call P w K mg base r G) : DOk P w K mg base (r + 1) G call2 40 d__law_numbers_right ["pot", "size"] :=
  dok_gen (b := b__law_numbers_right) Y.F__law_numbers_right sc__law_numbers_right ⟨hG.1, hG.2.1⟩ rfl hj fun f A0 outer s0 H0 E cdv n0 W p0 => (s_cons (z_asg (ss := [2]) (x_call (cp__law_draw_2 Y A) (x_c x_v (x_c (se_bin ok_add (x_ix (x_lst (x_c se_int (x_c se_int (x_c se_int ss_nil)))) (se_bin0 ok_sub x_v se_int) (fun _ _ => rfl)) se_int) ss_nil))) g_n) (s_cons (z_asg (ss := [3]) (x_call (cp__law_all_2 Y A) (x_c x_v (x_c x_v ss_nil))) g_n) (s_cons (z_asg (ss := [4]) (x_call (cp_all_words_2 Y A) (x_c x_v (x_c x_v ss_nil))) g_n) (s_cons (s_if (y_cmp (n := 1) (ok_ne p0.hu) (x_b Y.no_repr (ok_repr p0.hu (p0.hg hG.2.2)) (x_c (x_lst (x_c x_v (x_c (x_callK0 (ck_all_words_0_length_size Y A) (sk_cons x_v (sk_cons x_v sk_nil))) ss_nil))) ss_nil)) (x_b Y.no_repr (ok_repr p0.hu (p0.hg hG.2.2)) (x_c (x_lst (x_c x_v (x_c x_v ss_nil))) ss_nil))) (s_one (s_ret se_bl)) s_nil) (s_cons (z_expr (x_append x_v (x_c se_non ss_nil))) (s_cons (s_if (y_cmp (n := 1) (ok_ne p0.hu) (x_b Y.no_repr (ok_repr p0.hu (p0.hg hG.2.2)) (x_c (x_call (cp_all_words_2 Y A) (x_c x_v (x_c x_v ss_nil))) ss_nil)) (x_b Y.no_repr (ok_repr p0.hu (p0.hg hG.2.2)) (x_c x_v ss_nil))) (s_one (s_ret se_bl)) s_nil) (s_cons (z_for (ss := [5]) (i_rng1 Y.no_range (x_c se_int ss_nil)) g_n (s_cons (z_asg (ss := [6]) (x_call (cp__law_draw_2 Y A) (x_c x_v (x_c (x_b Y.no_len ok_len (x_c x_v ss_nil)) ss_nil))) g_n) (s_cons (z_asg (ss := [7]) (x_ix x_v x_v (fun _ _ => rfl)) g_n) (s_cons (s_if (y_cmp (n := 1) (ok_ne p0.hu) (x_b Y.no_repr (ok_repr p0.hu (p0.hg hG.2.2)) (x_c (x_lst (x_c (x_call (cp_word_at_3 Y A) (x_c x_v (x_c x_v (x_c x_v ss_nil)))) (x_c (x_callK0 (ck_word_at_0_number_length_size Y A) (sk_cons x_v (sk_cons x_v (sk_cons x_v sk_nil)))) ss_nil))) ss_nil)) (x_b Y.no_repr (ok_repr p0.hu (p0.hg hG.2.2)) (x_c (x_lst (x_c x_v (x_c x_v ss_nil))) ss_nil))) (s_one (s_ret se_bl)) s_nil) (s_cons (s_if (y_cmp (n := 1) (ok_ne p0.hu) (x_b Y.no_repr (ok_repr p0.hu (p0.hg hG.2.2)) (x_c (x_lst (x_c (x_call (cp_word_number_2 Y A) (x_c x_v (x_c x_v ss_nil))) (x_c (x_callK0 (ck_word_number_0_word_size Y A) (sk_cons x_v (sk_cons x_v sk_nil))) ss_nil))) ss_nil)) (x_b Y.no_repr (ok_repr p0.hu (p0.hg hG.2.2)) (x_c (x_lst (x_c x_v (x_c x_v ss_nil))) ss_nil))) (s_one (s_ret se_bl)) s_nil) (s_cons (z_asg (ss := [8]) (x_call (cp__law_word_3 Y A) (x_c x_v (x_c x_v (x_c se_int ss_nil)))) g_n) (s_cons (z_asg (ss := [9]) (x_call (cp_word_number_2 Y A) (x_c x_v (x_c (se_bin ok_add x_v x_v) ss_nil))) g_n) (s_one (s_if (y_w (st_or (y_cmp (n := 1) (ok_ne p0.hu) x_v (se_bin ok_add (se_bin ok_mul x_v (x_b Y.no_len ok_len (x_c (x_call (cp__law_all_2 Y A) (x_c x_v (x_c (x_b Y.no_len ok_len (x_c x_v ss_nil)) ss_nil))) ss_nil))) (x_call (cp_word_number_2 Y A) (x_c x_v (x_c x_v ss_nil))))) (st_or1 (y_cmp (n := 1) (ok_ne p0.hu) (x_call (cp_word_at_3 Y A) (x_c x_v (x_c (se_bin ok_add x_v (x_b Y.no_len ok_len (x_c x_v ss_nil))) (x_c x_v ss_nil)))) (se_bin ok_add x_v x_v))))) (s_one (s_ret se_bl)) s_nil))))))))) (s_one (s_ret se_bl)))))))))
theorem ok__law_right (hj : ∀ ds dh kx kk, call2 41 ds dh kx kk = true → runFn call (.body 1 [] 13 b__law_right) ds dh kx kk = true) (Y : Hy K mg) (hG : G.K = K ∧ G.w = w ∧ G.gd = true) (A : All call P w K mg base r G) : DOk P w K mg base (r + 1) G call2 41 d__law_right ["pot"] :=
  dok_gen (b := b__law_right) Y.F__law_right sc__law_right ⟨hG.1, hG.2.1⟩ rfl hj fun f A0 outer s0 H0 E cdv n0 W p0 => (s_cons (z_asg (ss := [1]) (se_bin ok_add se_int (x_call (cp__law_draw_2 Y A) (x_c x_v (x_c se_int ss_nil)))) g_n) (s_cons (z_asg (ss := [2]) (se_bin ok_add (x_lc (own := [("turn", 3)]) (cs' := []) (i_rng1 Y.no_range (x_c se_int ss_nil)) (inBlk fun s1 H1 fp1 n1 W1 p1 => ⟨g_n, (x_call (cp__law_word_3 Y A) (x_c x_v (x_c x_v (x_c se_int ss_nil)))), trivial⟩)) (x_lst (x_c (x_tup ss_nil) ss_nil))) g_n) (s_cons (z_expr (x_append x_v (x_c (se_bin ok_add (x_ix x_v se_int (fun _ _ => rfl)) (x_call (cp__law_word_3 Y A) (x_c x_v (x_c x_v (x_c se_int ss_nil))))) ss_nil))) (s_cons (z_for (ss := [4]) (si_seq x_v) g_n (s_cons (s_if (y_w (st_or (st_not (y_val (x_b Y.no_all (ok_all rfl) (x_c (x_lc (own := [("other", 5)]) (cs' := []) (si_seq x_v) (inBlk fun s1 H1 fp1 n1 W1 p1 => ⟨g_n, (x_call (cp__law_two_right_3 Y A) (x_c x_v (x_c x_v (x_c x_v ss_nil)))), trivial⟩)) ss_nil)))) (st_or1 (st_not (y_val (x_call (cp_is_word_2 Y A) (x_c x_v (x_c x_v ss_nil)))))))) (s_one (s_ret se_bl)) s_nil) (s_cons (z_lc (own := [("letter", 7)]) (cs' := []) (i_rng1 Y.no_range (x_c x_v ss_nil)) (inBlk fun s1 H1 fp1 n1 W1 p1 => ⟨g_n, (se_bin ok_add x_v (x_tup (x_c x_v ss_nil))), trivial⟩)) (s_cons (z_asg (ss := [8]) (x_call (cp_split_2 Y A) (x_c x_v (x_c x_v ss_nil))) g_n) (s_cons (s_if (y_w (st_or (y_cmp (n := 1) (ok_ne p0.hu) (x_b Y.no_repr (ok_repr p0.hu (p0.hg hG.2.2)) (x_c (x_lst (x_c x_v (x_c (x_callK0 (ck_split_0_word_size Y A) (sk_cons x_v (sk_cons x_v sk_nil))) ss_nil))) ss_nil)) (x_b Y.no_repr (ok_repr p0.hu (p0.hg hG.2.2)) (x_c (x_lst (x_c x_v (x_c x_v ss_nil))) ss_nil))) (st_or1 (y_cmp (n := 1) ok_isnot (x_call (cp_are_apart_2 Y A) (x_c x_v (x_c x_v ss_nil))) se_bl)))) (s_one (s_ret se_bl)) s_nil) (s_cons (z_expr (x_append x_v (x_c se_non ss_nil))) (s_one (s_if (y_cmp (n := 1) (ok_ne p0.hu) (x_b Y.no_repr (ok_repr p0.hu (p0.hg hG.2.2)) (x_c (x_call (cp_split_2 Y A) (x_c x_v (x_c x_v ss_nil))) ss_nil)) (x_b Y.no_repr (ok_repr p0.hu (p0.hg hG.2.2)) (x_c x_v ss_nil))) (s_one (s_ret se_bl)) s_nil)))))))) (s_cons (z_asg (ss := [9]) (se_slice x_v so_no (so_ex se_int)) g_n) (s_cons (z_asg (ss := [6]) (se_not (x_b Y.no_any (ok_any rfl) (x_c (x_lc (own := [("at", 11)]) (cs' := []) (i_rng1 Y.no_range (x_c se_int ss_nil)) (inBlk fun s1 H1 fp1 n1 W1 p1 => ⟨g_n, (x_b Y.no_any (ok_any rfl) (x_c (x_lc (own := [("late", 10)]) (cs' := []) (si_seq (se_slice x_v (so_ex (se_bin ok_add x_v se_int)) so_no)) (inBlk fun s2 H2 fp2 n2 W2 p2 => ⟨g_n, (x_call (cp__law_clash_2 Y A) (x_c (x_ix x_v x_v (fun _ _ => rfl)) (x_c x_v ss_nil))), trivial⟩)) ss_nil)), trivial⟩)) ss_nil))) g_n) (s_cons (s_if (y_w (st_or (y_cmp (n := 1) (ok_ne p0.hu) (x_call (cp_are_apart_2 Y A) (x_c x_v (x_c x_v ss_nil))) x_v) (st_or1 (st_not (y_val (x_call (cp__law_numbers_right_2 Y A) (x_c x_v (x_c x_v ss_nil)))))))) (s_one (s_ret se_bl)) s_nil) (s_cons (z_asg (ss := [12]) (x_bt Y.no_tuple ok_tuple (x_c (x_lc (own := [("letter", 7)]) (cs' := []) (i_rng1 Y.no_range (x_c se_int ss_nil)) (inBlk fun s1 H1 fp1 n1 W1 p1 => ⟨g_n, (x_call (cp__law_draw_2 Y A) (x_c x_v (x_c x_v ss_nil))), trivial⟩)) ss_nil)) g_n) (s_cons (z_asg (ss := [13]) (x_call (cp_word_number_2 Y A) (x_c x_v (x_c x_v ss_nil))) g_n) (s_one (s_ret (se_and (x_cmp (n := 1) (ok_eq p0.hu) (x_call (cp_word_at_3 Y A) (x_c x_v (x_c se_int (x_c x_v ss_nil)))) x_v) (se_and (x_cmp (n := 1) (ok_eq p0.hu) (x_call (cp_common_beginning_3 Y A) (x_c x_v (x_c x_v (x_c (se_slice x_v so_no (so_ex se_int)) ss_nil)))) (se_slice x_v so_no (so_ex se_int))) (se_one (x_cmp (n := 1) ok_is (x_call (cp_does_begin_3 Y A) (x_c x_v (x_c x_v (x_c x_v ss_nil)))) se_bl)))))))))))))))
theorem ok_law (hj : ∀ ds dh kx kk, call2 42 ds dh kx kk = true → runFn call (.body 1 [] 1 b_law) ds dh kx kk = true) (Y : Hy K mg) (hG : G.K = K ∧ G.w = w ∧ G.gd = true) (A : All call P w K mg base r G) : DOk P w K mg base (r + 1) G call2 42 d_law ["script"] :=
  dok_gen (b := b_law) Y.F_law sc_law ⟨hG.1, hG.2.1⟩ rfl hj fun f A0 outer s0 H0 E cdv n0 W p0 => (s_one (s_ret (x_b Y.no_all (ok_all rfl) (x_c (x_lc (own := [("k", 1)]) (cs' := []) (i_rng1 Y.no_range (x_c (x_b Y.no_max (ok_max rfl) (x_c se_int (x_c (x_b Y.no_min (ok_min rfl) (x_c se_int (x_c (x_lenS Y.no_len x_v) ss_nil))) ss_nil))) ss_nil)) (inBlk fun s1 H1 fp1 n1 W1 p1 => ⟨g_n, (x_call (cp__law_right_1 Y A) (x_c (x_call (cp__law_pot_2 Y A) (x_c x_v (x_c x_v ss_nil))) ss_nil)), trivial⟩)) ss_nil))))
theorem pot_body {j : Nat} (inner : Call) : PotB (fun _ ds dh kx kk => runFn inner (.body 2 [] 1 b__law_pot) ds dh kx kk) j := potBd3_ok (A := 1697) (B := 10163) (M := 2147483549) (C := 40014) (D := 10163) (E := 61) (M2 := 2147483563) (by decide) (by decide) (by decide) (by decide) (by decide) (by decide) (by decide)
theorem draw_body {j : Nat} (inner : Call) : DrawB (fun _ ds dh kx kk => runFn inner (.body 2 [] 1 b__law_draw) ds dh kx kk) j := drawBd_ok (A := 39373) (B := 1709) (M := 2147483587) (M2 := 2147483563) (D := 19) (by decide) (by decide) (by decide) (by decide) (by decide) (by decide)
theorem step0 {k : Nat} (Y : Hy K mg) (hG : G.K = K ∧ G.w = w ∧ G.gd = true) (A : All (callK fns k) P w K mg base r G) : All (callK fns (k + 1)) P w K mg base (r + 1) G := ⟨(ok_is_integer (tab_body rfl) Y hG A), (ok_is_count (tab_body rfl) Y hG A), (ok_is_list (tab_body rfl) Y hG A), (ok_want_many (tab_body rfl) Y hG A), (ok_want_at_most (tab_body rfl) Y hG A), (ok_is_size_value (tab_body rfl) Y hG A), (ok_want_size (tab_body rfl) Y hG A), (ok_is_word_value (tab_body rfl) Y hG A), (ok_want_word (tab_body rfl) Y hG A), (ok_are_words_value (tab_body rfl) Y hG A), (ok_want_words (tab_body rfl) Y hG A), (ok_begins (tab_body rfl) Y hG A), (ok_two_clash (tab_body rfl) Y hG A), (ok_split_of (tab_body rfl) Y hG A), (ok_common_of (tab_body rfl) Y hG A), (ok_times (tab_body rfl) Y hG A), (ok_first_clash (tab_body rfl) Y hG A), (ok_number_of (tab_body rfl) Y hG A), (ok_word_by (tab_body rfl) Y hG A), (ok_is_word (tab_body rfl) Y hG A), (ok_does_begin (tab_body rfl) Y hG A), (ok_are_apart (tab_body rfl) Y hG A), (ok_split (tab_body rfl) Y hG A), (ok_common_beginning (tab_body rfl) Y hG A), (ok_word_number (tab_body rfl) Y hG A), (ok_word_at (tab_body rfl) Y hG A), (ok_all_words (tab_body rfl) Y hG A), (dok_pot (call := fun _ ds dh kx kk => runFn (callK fns k) (.body 2 [] 1 b__law_pot) ds dh kx kk) (ok__law_pot (fun _ _ _ _ h => h) Y hG A) (pot_body _) rfl fun _ _ _ _ h => h), (dok_draw (call := fun _ ds dh kx kk => runFn (callK fns k) (.body 2 [] 1 b__law_draw) ds dh kx kk) (ok__law_draw (fun _ _ _ _ h => h) Y hG A) (draw_body _) rfl fun _ _ _ _ h => h), (ok__law_pick (tab_body rfl) Y hG A), (ok__law_mixed (tab_body rfl) Y hG A), (ok__law_word (tab_body rfl) Y hG A), (ok__law_begins (tab_body rfl) Y hG A), (ok__law_clash (tab_body rfl) Y hG A), (ok__law_full (tab_body rfl) Y hG A), (ok__law_cut (tab_body rfl) Y hG A), (ok__law_all (tab_body rfl) Y hG A), (ok__law_least (tab_body rfl) Y hG A), (ok__law_common (tab_body rfl) Y hG A), (ok__law_two_right (tab_body rfl) Y hG A), (ok__law_numbers_right (tab_body rfl) Y hG A), (ok__law_right (tab_body rfl) Y hG A)⟩
theorem all0 (Y : Hy K mg) (hG : G.K = K ∧ G.w = w ∧ G.gd = true) : ∀ k, All (callK fns k) P w K mg base (r + k) G
  | 0 => ⟨dok_zero Y.F_is_integer, dok_zero Y.F_is_count, dok_zero Y.F_is_list, dok_zero Y.F_want_many, dok_zero Y.F_want_at_most, dok_zero Y.F_is_size_value, dok_zero Y.F_want_size, dok_zero Y.F_is_word_value, dok_zero Y.F_want_word, dok_zero Y.F_are_words_value, dok_zero Y.F_want_words, dok_zero Y.F_begins, dok_zero Y.F_two_clash, dok_zero Y.F_split_of, dok_zero Y.F_common_of, dok_zero Y.F_times, dok_zero Y.F_first_clash, dok_zero Y.F_number_of, dok_zero Y.F_word_by, dok_zero Y.F_is_word, dok_zero Y.F_does_begin, dok_zero Y.F_are_apart, dok_zero Y.F_split, dok_zero Y.F_common_beginning, dok_zero Y.F_word_number, dok_zero Y.F_word_at, dok_zero Y.F_all_words, dok_zero Y.F__law_pot, dok_zero Y.F__law_draw, dok_zero Y.F__law_pick, dok_zero Y.F__law_mixed, dok_zero Y.F__law_word, dok_zero Y.F__law_begins, dok_zero Y.F__law_clash, dok_zero Y.F__law_full, dok_zero Y.F__law_cut, dok_zero Y.F__law_all, dok_zero Y.F__law_least, dok_zero Y.F__law_common, dok_zero Y.F__law_two_right, dok_zero Y.F__law_numbers_right, dok_zero Y.F__law_right⟩
  | k + 1 => step0 Y hG (all0 Y hG k)
/-- the law sees its right by its answer -/
noncomputable def callL (q : Nat) : Call := fun j ds dh kx kk => cond (Nat.beq j 41) (rightN ds dh kx kk) (callK fns q j ds dh kx kk)
theorem allL {q : Nat} (A : All (callK fns q) P w K mg base r G) (h : callK fns q 41 [.ref 0] h0 noX okPot = true) : All (callL q) P w K mg base r G := ⟨A.is_integer.imp (fun _ _ _ _ z => z), A.is_count.imp (fun _ _ _ _ z => z), A.is_list.imp (fun _ _ _ _ z => z), A.want_many.imp (fun _ _ _ _ z => z), A.want_at_most.imp (fun _ _ _ _ z => z), A.is_size_value.imp (fun _ _ _ _ z => z), A.want_size.imp (fun _ _ _ _ z => z), A.is_word_value.imp (fun _ _ _ _ z => z), A.want_word.imp (fun _ _ _ _ z => z), A.are_words_value.imp (fun _ _ _ _ z => z), A.want_words.imp (fun _ _ _ _ z => z), A.begins.imp (fun _ _ _ _ z => z), A.two_clash.imp (fun _ _ _ _ z => z), A.split_of.imp (fun _ _ _ _ z => z), A.common_of.imp (fun _ _ _ _ z => z), A.times.imp (fun _ _ _ _ z => z), A.first_clash.imp (fun _ _ _ _ z => z), A.number_of.imp (fun _ _ _ _ z => z), A.word_by.imp (fun _ _ _ _ z => z), A.is_word.imp (fun _ _ _ _ z => z), A.does_begin.imp (fun _ _ _ _ z => z), A.are_apart.imp (fun _ _ _ _ z => z), A.split.imp (fun _ _ _ _ z => z), A.common_beginning.imp (fun _ _ _ _ z => z), A.word_number.imp (fun _ _ _ _ z => z), A.word_at.imp (fun _ _ _ _ z => z), A.all_words.imp (fun _ _ _ _ z => z), A._law_pot.imp (fun _ _ _ _ z => z), A._law_draw.imp (fun _ _ _ _ z => z), A._law_pick.imp (fun _ _ _ _ z => z), A._law_mixed.imp (fun _ _ _ _ z => z), A._law_word.imp (fun _ _ _ _ z => z), A._law_begins.imp (fun _ _ _ _ z => z), A._law_clash.imp (fun _ _ _ _ z => z), A._law_full.imp (fun _ _ _ _ z => z), A._law_cut.imp (fun _ _ _ _ z => z), A._law_all.imp (fun _ _ _ _ z => z), A._law_least.imp (fun _ _ _ _ z => z), A._law_common.imp (fun _ _ _ _ z => z), A._law_two_right.imp (fun _ _ _ _ z => z), A._law_numbers_right.imp (fun _ _ _ _ z => z), dok_right A._law_right rfl h (fun _ _ _ _ z => z)⟩
end
end L12

set_option Elab.async false
set_option linter.all false
set_option maxRecDepth 100000
set_option maxHeartbeats 4000000
namespace Dz
open PySem L2
section
variable {fr : Fr} {h : DH} {es : Exs} {i j : Nat} {R : Fr → DH → Prop} {P : DV → DH → Prop} {r : Sx}
theorem sb_par2 (hs : Eas es fr h (fun ds h1 => ∃ x y, ds = [x, y] ∧ Sb r (setAt (setAt fr i (some x)) j (some y)) h1 R P)) : Sb (sSeq (sPar2 i j es) r) fr h R P := fun nx rt ex bk ct hn hr => hs _ _ fun ds h1 ⟨x, y, e, p⟩ => by
  subst e
  exact p _ _ _ _ _ hn hr
theorem eqB {a b : Bool} : eqC (.bl a) (.bl b) h = ofB (decide (a = b)) := by cases a <;> cases b <;> rfl
theorem apart_two {u v : List Nat} : Apart [u, v] ↔ clash u v = false := by
  constructor
  · intro a; exact a 0 1 (by simp) (by decide)
  · intro e i j hj hi
    have hj2 : j < 2 := hj
    have : i = 0 ∧ j = 1 := by omega
    obtain ⟨rfl, rfl⟩ := this
    exact e
theorem clash_comm (u v : List Nat) : clash u v = clash v u := Bool.or_comm _ _
theorem comm_comm : ∀ u v : List Nat, comm u v = comm v u
  | [], [] => rfl
  | [], _ :: _ => rfl
  | _ :: _, [] => rfl
  | a :: u, b :: v => by
    show (if a = b then a :: comm u v else []) = (if b = a then b :: comm v u else [])
    by_cases e : a = b
    · subst e; rw [if_pos rfl, if_pos rfl, comm_comm u v]
    · rw [if_neg e, if_neg (fun z => e z.symm)]
theorem beg_long {u v : List Nat} (hl : ¬ u.length ≤ v.length) : beg u v = false := decide_eq_false fun z => by
  have := congrArg List.length z
  rw [List.length_take] at this
  omega
theorem leN {m n : Nat} : leC (.int (.ofNat m)) (.int (.ofNat n)) h = ofB (decide (m ≤ n)) := by
  rw [le_I]; congr 1; rw [decide_eq_decide]; exact Int.ofNat_le
theorem tup_wd {w v : List Nat} (hl : w.length + v.length ≤ 16777216) : opAdd (wd w) (wd v) h = some (wd (w ++ v), h) := by
  unfold wd
  rw [List.map_append]; exact addT_ok (by rw [List.length_map, List.length_map]; exact hl)
theorem wd_len {w : List Nat} : bLen [wd w] h = some (.int (.ofNat w.length), h) := by
  have := lenT_ok (h := h) (xs := w.map fun c => DV.int (.ofNat c))
  rw [List.length_map] at this
  exact this
/-- two words in a list: its text -/
theorem rep_ww {u v : List Nat} (hu : wok 4 u) (hv : wok 4 v) (h1 : u.length ≤ 100) (h2 : v.length ≤ 100) : RepL (h.new (.lst [wd u, wd v])) (.ref h.n) (t2 (tW u) (tW v)) := by
  have B : ∀ {w : List Nat}, wok 4 w → w.length ≤ 100 → Tex 39 h (wd w) (tW w) 70000 := fun {w} hw hl h' x => by
    obtain ⟨a, b, c⟩ := txt_wd (n := 37) (h := h) hw h' x
    exact ⟨a, by omega, c⟩
  exact ⟨_, _, _, rfl, get_new_same _ _, txt_two (n := 39) (B hu h1) (B hv h2), by decide⟩
theorem wok4 {s : Nat} (hs : s ≤ 4) {w : List Nat} (hw : wok s w) : wok 4 w := fun c hc => Nat.lt_of_lt_of_le (hw c hc) hs
theorem rep_bb {a b : Bool} : RepL (h.new (.lst [.bl a, .bl b])) (.ref h.n) (t2 (tB a) (tB b)) := ⟨_, _, _, rfl, get_new_same _ _, txt_two (n := 39) txt_bl txt_bl, by decide⟩
theorem rep_nn {a b : Nat} (ha : Nat.log2 a ≤ 1900) (hb : Nat.log2 b ≤ 1900) : RepL (h.new (.lst [.int (.ofNat a), .int (.ofNat b)])) (.ref h.n) (t2 (tN a) (tN b)) := ⟨_, _, _, rfl, get_new_same _ _, txt_two (n := 39) (txt_int ha) (txt_int hb), by decide⟩
end
end Dz
namespace L12
open PySem L2 Dz
theorem c0 (q : Nat) : KInt (callK fns (q + 1)) 0 := k_int rfl rfl rfl rfl
theorem c1 (q : Nat) : KCnt (callK fns (q + 2)) 1 := k_cnt rfl rfl (c0 q)
theorem c2 (q : Nat) : KLst (callK fns (q + 1)) 2 := k_lst rfl rfl rfl rfl
theorem c3 (q : Nat) : KMany (callK fns (q + 3)) 3 := k_many rfl rfl (c1 q)
theorem c4 (q : Nat) : KMost (callK fns (q + 1)) 4 := k_most rfl rfl
theorem c5 (q : Nat) : KSz (callK fns (q + 2)) 5 := k_sz rfl rfl (c0 q)
theorem c6 (q : Nat) : KWsz (callK fns (q + 3)) 6 := k_wsz rfl rfl (c5 q)
theorem c7 (q : Nat) : KIsW (callK fns (q + 2)) 7 := k_isw rfl rfl rfl (c0 q)
theorem c8 (q : Nat) : KWw (callK fns (q + 3)) 8 := k_ww rfl rfl (c7 q)
theorem c9 (q : Nat) : KIsWs (callK fns (q + 3)) 9 := k_isws rfl rfl (c2 (q + 1)) (c7 q)
theorem c10 (q : Nat) : KWws (callK fns (q + 4)) 10 := k_wws rfl rfl (c9 q)
theorem c11 (q : Nat) : KBeg (callK fns (q + 1)) 11 := k_beg rfl rfl
theorem c12 (q : Nat) : KClash (callK fns (q + 2)) 12 := k_clash rfl rfl (c11 q)
theorem c14 (q : Nat) : KComm (callK fns (q + 1)) 14 := k_comm rfl rfl
theorem c15 (q : Nat) : KTimes (callK fns (q + 1)) 15 := k_times rfl rfl
theorem c16 (q : Nat) : KFc (callK fns (q + 3)) 16 := k_fc rfl rfl (c12 q)
theorem c17 (q : Nat) : KNum (callK fns (q + 1)) 17 := k_num rfl rfl
theorem c18 (q : Nat) : KBy (callK fns (q + 1)) 18 := k_by rfl rfl
theorem c19 (q : Nat) : KIw2 (callK fns (q + 4)) 19 := k_iw2 rfl rfl (c6 q) (c7 (q + 1))
theorem c20 (q : Nat) : KDb (callK fns (q + 4)) 20 := k_db rfl rfl (c6 q) (c8 q) (c11 (q + 2))
theorem c21 (q : Nat) : KAp (callK fns (q + 5)) 21 := k_ap rfl rfl (c6 (q + 1)) (c10 q) (c16 (q + 1))
theorem c22 (q : Nat) : KSp (callK fns (q + 4)) 22 := k_sp (q := q + 2) (bs := b_split_of) rfl rfl (c6 q) (c8 q) (c4 (q + 2)) rfl rfl
theorem c23 (q : Nat) : KCb (callK fns (q + 4)) 23 := k_cb rfl rfl (c6 q) (c8 q) (c14 (q + 2))
theorem c24 (q : Nat) : KWn (callK fns (q + 4)) 24 := k_wn rfl rfl (c6 q) (c8 q) (c17 (q + 2))
theorem c25 (q : Nat) : KWa (callK fns (q + 4)) 25 := k_wa rfl rfl (c6 q) (c3 q) (c1 (q + 1)) (c15 (q + 2)) (c18 (q + 2))
theorem c26 (q : Nat) : KAw (callK fns (q + 4)) 26 := k_aw rfl rfl (c6 q) (c3 q) (c15 (q + 2)) (c4 (q + 2)) (c18 (q + 2))
theorem c33 (q : Nat) : KClash (callK fns (q + 2)) 33 := k_clash rfl rfl (k_beg (q := q) rfl rfl)
theorem c36 (q : Nat) : KLall (callK fns (q + 1)) 36 := k_lall rfl rfl
theorem c38 (q : Nat) : KLcomm (callK fns (q + 1)) 38 := k_lcomm rfl rfl
theorem c31 (q : Nat) {s m : Nat} {h : DH} (h1 : 1 ≤ s) (h2 : s ≤ 4) (hm : m ≤ 1000) (hp : h.get 0 = some .pot) (hn : 0 < h.n) : Ca (callK fns (q + 2)) 31 [.ref 0, .int (.ofNat s), .int (.ofNat m)] h (fun d h' => ∃ w, d = wd w ∧ w.length ≤ m ∧ wok s w ∧ Ext h h') := k_lword (jd := 28) rfl rfl rfl h1 h2 hm hp hn
/-! ### two words -/
theorem two_ok (q : Nat) {s : Nat} {u v : List Nat} (h0 : DH) (h1 : 2 ≤ s) (h2 : s ≤ 4) (hu : u.length ≤ 40) (hu2 : wok s u) (hv : v.length ≤ 40) (hv2 : wok s v) : Ca (callK fns (q + 6)) 39 [.int (.ofNat s), wd u, wd v] h0 (fun d h' => d = .bl true ∧ Ext h0 h') := by
  have u4 := wok4 h2 hu2
  have v4 := wok4 h2 hv2
  have er : Ev (cBc bRepr (cCons (cLst (cCons (cVar 1) (cCons (cVar 2) cNil))) cNil)) (plainFr 4 [.int (.ofNat s), wd u, wd v]) h0 (.str (t2 (tW u) (tW v))) (h0.new (.lst [wd u, wd v])) := by
    obtain ⟨i, xs, B, e, g, t, hB⟩ := rep_ww (h := h0) u4 v4 (by omega) (by omega)
    cases e
    exact ev_bc (evs_cons (ev_lst (evs_cons (ev_var rfl) (evs_cons (ev_var rfl) evs_nil))) evs_nil) (rep_l (get_new_same h0 _) t hB)
  refine ca_sb (bd := b__law_two_right) rfl rfl (sb_par2 (eas_v er (eas_cons (ea_cv (evs_cons (ev_var rfl) (evs_cons (ev_var rfl) evs_nil)) rfl (c38 (q + 4) u v _ (by omega))) fun d h1' ⟨e1, e2⟩ => eas_nil ⟨_, _, rfl, ?_⟩)))
  subst e1 e2
  obtain ⟨n, hcn⟩ := comm_pre u v
  have cl : (comm u v).length ≤ 40 := by rw [hcn, List.length_take]; omega
  have c4' : wok 4 (comm u v) := by rw [hcn]; exact wok_take u4 n
  generalize hH : h0.new (.lst [wd u, wd v]) = hh
  have x0 : Ext h0 hh := by rw [← hH]; exact Ext.new _ _
  -- the common beginning
  refine sb_iff (R1 := fun h' => Ext h0 h') (ta_rep (ea_lst (eas_cons (ea_cv (evs_cons (ev_var rfl) (evs_cons (ev_var rfl) (evs_cons (ev_var rfl) evs_nil))) rfl (c23 (q + 1) s u v hh h1 h2 hu hu2 hv hv2)) fun d ha ⟨e1, x1⟩ => eas_cons (ea_cv (evs_cons (ev_var rfl) (evs_cons (ev_var rfl) (evs_cons (ev_var rfl) evs_nil))) rfl (c23 (q + 1) s v u ha h1 h2 hv hv2 hu hu2)) fun d2 hb ⟨e2, x2⟩ => eas_nil ?_))) fun hc x => ?_
  · rw [comm_comm v u] at e2
    subst e1 e2
    exact ⟨_, rep_ww c4' c4' (by omega) (by omega), ea_ev (ev_lst (evs_cons (ev_var rfl) (evs_cons (ev_var rfl) evs_nil))) ⟨rep_ww c4' c4' (by omega) (by omega), ((((x0.trans x1).trans x2).trans (Ext.new _ _)).trans (Ext.new _ _))⟩⟩
  -- is_ahead
  have eb : Ev (cAnd (cCmp false leC (cBc bLen (cCons (cVar 1) cNil)) (cBc bLen (cCons (cVar 2) cNil))) (cCmp false eqC (cSl (cVar 2) oNo (oEx (cBc bLen (cCons (cVar 1) cNil)))) (cVar 1))) [some (.int (.ofNat s)), some (wd u), some (wd v), some (.str (t2 (tW u) (tW v))), some (wd (comm u v)), none, none] hc (.bl (beg u v)) hc := by
    have e := ev_cmp (neg := false) (ev_bc (evs_cons (ev_var (i := 1) (fr := [some (.int (.ofNat s)), some (wd u), some (wd v), some (.str (t2 (tW u) (tW v))), some (wd (comm u v)), none, none]) (h := hc) (d := wd u) rfl) evs_nil) wd_len) (ev_bc (evs_cons (ev_var (i := 2) (d := wd v) rfl) evs_nil) wd_len) leN
    by_cases z : u.length ≤ v.length
    · rw [decide_eq_true z] at e
      exact ev_andt e (ev_beg rfl rfl)
    · rw [decide_eq_false z] at e
      rw [beg_long z]
      exact ev_andf e
  refine sb_sv2 (sv_asg eb go_nm) ?_
  -- does_begin
  refine sb_iff (R1 := fun h' => Ext h0 h') (ta_rep (ea_lst (eas_cons (ea_cv (evs_cons (ev_var rfl) (evs_cons (ev_var rfl) (evs_cons (ev_var rfl) evs_nil))) rfl (c20 (q + 1) s u v hc h1 h2 hu hu2 hv hv2)) fun d ha ⟨e1, x1⟩ => eas_cons (ea_cv (evs_cons (ev_var rfl) (evs_cons (ev_var rfl) (evs_cons (ev_var rfl) evs_nil))) rfl (c20 (q + 1) s u v ha h1 h2 hu hu2 hv hv2)) fun d2 hb ⟨e2, x2⟩ => eas_nil ?_))) fun hd xd => ?_
  · subst e1 e2
    exact ⟨_, rep_bb, ea_ev (ev_lst (evs_cons (ev_var rfl) (evs_cons (ev_var rfl) evs_nil))) ⟨rep_bb, ((((x.trans x1).trans x2).trans (Ext.new _ _)).trans (Ext.new _ _))⟩⟩
  -- clash
  refine sb_nm (P1 := fun d h' => d = .bl (clash u v) ∧ Ext h0 h') (ea_or (P1 := fun d h' => d = .bl (beg u v) ∧ h' = hd) (ea_v (ev_var rfl)) fun d h' ⟨e1, e2⟩ => ?_) fun d he ⟨e1, xe⟩ => ?_
  · subst e1 e2
    unfold clash
    cases hq : beg u v with
    | true => exact .inl ⟨rfl, rfl, xd⟩
    | false => exact .inr ⟨rfl, ea_cv (evs_cons (ev_var rfl) (evs_cons (ev_var rfl) (evs_cons (ev_var rfl) evs_nil))) rfl (ca_imp (c20 (q + 1) s v u h' h1 h2 hv hv2 hu hu2) fun d h3 ⟨e, y⟩ => ⟨e, xd.trans y⟩)⟩
  subst e1
  have two : ∀ w ∈ [u, v], w.length ≤ 40 ∧ wok s w := fun w hw => by
    rcases List.mem_cons.mp hw with rfl | hw
    · exact ⟨hu, hu2⟩
    · rw [List.mem_singleton.mp hw]; exact ⟨hv, hv2⟩
  have two' : ∀ w ∈ [v, u], w.length ≤ 40 ∧ wok s w := fun w hw => two w (by simp at hw ⊢; exact hw.symm)
  refine sb_iff (R1 := fun h' => Ext h0 h') (ta_or (P1 := fun c h' => c = false ∧ Ext h0 h') (ta_of (ea_cmp (ea_call (eas_v (ev_var rfl) (eas_v (ev_lst (evs_cons (ev_var rfl) (evs_cons (ev_var rfl) evs_nil))) (eas_nil ⟨_, rfl, c21 q s (.ref he.n) [u, v] _ h1 h2 (Sq.new he _) (by simp) two⟩)))) fun d h3 ⟨⟨t, e3, ht⟩, x3⟩ => ea_ev (ev_var rfl) ?_)) (fun h3 ⟨_, x3⟩ => ?_) fun h3 ⟨e, _⟩ => by cases e) fun hf xf => ?_
  · subst e3
    refine ⟨decide (t = clash u v), eqB, _, rfl, ?_, (xe.trans (Ext.new _ _)).trans x3⟩
    rw [apart_two] at ht
    have : t ≠ clash u v := fun z => by
      rw [z] at ht
      cases hq : clash u v with
      | true => rw [hq] at ht; exact absurd (ht.mp rfl) (by simp)
      | false => rw [hq] at ht; exact absurd (ht.mpr rfl) (by simp)
    rw [decide_eq_false this]; rfl
  · refine ta_or (P1 := fun c h' => c = false ∧ h' = h3) (ta_cmp (ev_cmp (neg := false) (ev_var rfl) (ev_var rfl) (eqW (comm u v) u h3)) (ev_var rfl) eqB ⟨?_, rfl⟩) (fun h4 ⟨_, e4⟩ => ?_) fun h4 ⟨e, _⟩ => by cases e
    · have hc := comm_eq u v
      by_cases z : comm u v = u
      · rw [decide_eq_true z, show beg u v = true from by rw [← hc]; exact z]; rfl
      · rw [decide_eq_false z]
        cases hb : beg u v with
        | true => exact absurd (by rw [hc]; exact hb) z
        | false => rfl
    · subst e4
      have rw' := rep_ww (h := h4) u4 v4 (by omega) (by omega)
      obtain ⟨i, xs, B, e, g, t, hB⟩ := rw'
      cases e
      refine ta_cmp (ev_bc (evs_cons (ev_lst (evs_cons (ev_var rfl) (evs_cons (ev_var rfl) evs_nil))) evs_nil) (rep_l (get_new_same h4 _) t hB)) (ev_var rfl) (q := true) ?_ ⟨rfl, x3.trans (Ext.new _ _)⟩
      rw [eq_str (t _ (Ext.refl _)).2.2]; rfl
  -- the end
  refine sb_ret (ea_cmp (ea_call (eas_v (ev_tup (evs_cons (ev_var rfl) (evs_cons (ev_var rfl) evs_nil))) (eas_v (ev_var rfl) (eas_nil ⟨_, rfl, c21 q s (.tup [wd v, wd u]) [v, u] hf h1 h2 (.inr rfl) (by simp) two'⟩)))) fun d h3 ⟨⟨t, e3, ht⟩, x3⟩ => ea_ev (ev_not (ev_var rfl)) ?_)
  subst e3
  refine ⟨decide (t = !clash u v), eqB, ?_, xf.trans x3⟩
  rw [apart_two, clash_comm] at ht
  have : t = !clash u v := by
    cases hq : clash u v with
    | true =>
      rw [hq] at ht
      cases t with
      | true => exact absurd (ht.mp rfl) (by simp)
      | false => rfl
    | false => rw [hq] at ht; exact ht.mpr rfl
  rw [decide_eq_true this]; rfl
end L12

set_option Elab.async false
set_option linter.all false
set_option maxRecDepth 100000
set_option maxHeartbeats 4000000
namespace L12
open PySem L2 Dz
/-! ### all words of a length, by numbers -/
theorem allW_sm {s L : Nat} (h1 : 2 ≤ s) (h2 : s ≤ 4) (hL : L ≤ 8) (i : Nat) {h : DH} (hi : i < h.n) (g : h.get i = some (.lst ((allW s L).map wd))) (hp : s ^ L ≤ 256) (n : Nat) : Tex (n + 3) h (.ref i) (tWs (allW s L)) 2000000 := fun h' x => by
  obtain ⟨a, b, c⟩ := txt_wds (n := n) (L := 8) hi g (fun w hw => by
    obtain ⟨q1, q2⟩ := allW_ok (s := s) (l := L) (by omega) w hw
    exact ⟨wok4 h2 q1, by omega⟩) h' x
  refine ⟨a, ?_, c⟩
  rw [allW_len] at b
  omega
theorem rep_W2 {s L : Nat} (h1 : 2 ≤ s) (h2 : s ≤ 4) (hL : L ≤ 8) (hp : s ^ L ≤ 256) {i j : Nat} {h : DH} (hi : i < h.n) (g : h.get i = some (.lst ((allW s L).map wd))) (hj : j < h.n) (g2 : h.get j = some (.lst ((allW s L).map wd))) :
    RepL (h.new (.lst [.ref i, .ref j])) (.ref h.n) (t2 (tWs (allW s L)) (tWs (allW s L))) :=
  ⟨_, _, _, rfl, get_new_same _ _, txt_two (n := 39) (allW_sm h1 h2 hL i hi g hp 36) (allW_sm h1 h2 hL j hj g2 hp 36), by decide⟩
theorem rep_W1 {s L : Nat} (h1 : 2 ≤ s) (h2 : s ≤ 4) (hL : L ≤ 8) (hp : s ^ L ≤ 256) {i : Nat} {h : DH} (hi : i < h.n) (g : h.get i = some (.lst ((allW s L).map wd))) : RepL h (.ref i) (tWs (allW s L)) :=
  ⟨_, _, _, rfl, g, allW_sm h1 h2 hL i hi g hp 37, by decide⟩
theorem len_ev {s : Nat} (h1 : 2 ≤ s) (h2 : s ≤ 4) {h : DH} {fr : Fr} (e : nth fr 1 = some (some (.int (.ofNat s)))) : ∃ n, Ev (cBin opAdd (cIx (cLst (cCons (cCst (.int (.ofNat 8))) (cCons (cCst (.int (.ofNat 5))) (cCons (cCst (.int (.ofNat 4))) cNil)))) (cBin0 (opInt subI) (cVar 1) (cCst (.int (.ofNat 2))))) (cCst (.int (.ofNat 1)))) fr h (.int (.ofNat n)) (h.new (.lst [.int (.ofNat 8), .int (.ofNat 5), .int (.ofNat 4)])) ∧ 0 < n ∧ n ≤ 9 ∧ ∀ L, L < n → s ^ L ≤ 256 := by
  have e0 := ev_bin0 (ev_var (h := h.new (.lst [.int (.ofNat 8), .int (.ofNat 5), .int (.ofNat 4)])) e) (ev_cst (d := .int (.ofNat 2))) (op_subN h1)
  have el : Ev (cLst (cCons (cCst (.int (.ofNat 8))) (cCons (cCst (.int (.ofNat 5))) (cCons (cCst (.int (.ofNat 4))) cNil)))) fr h (.ref h.n) (h.new (.lst [.int (.ofNat 8), .int (.ofNat 5), .int (.ofNat 4)])) := ev_lst (evs_cons ev_cst (evs_cons ev_cst (evs_cons ev_cst evs_nil)))
  have pw : ∀ (b m L B : Nat), 1 ≤ b → b ^ m ≤ B → L ≤ m → b ^ L ≤ B := fun b m L B hb hB hL => Nat.le_trans (Nat.pow_le_pow_right hb hL) hB
  obtain rfl | rfl | rfl : s = 2 ∨ s = 3 ∨ s = 4 := by omega
  · exact ⟨9, ev_bin (ev_ix el e0 (ixL (n := 0) (get_new_same h _) rfl)) ev_cst op_addN, by decide, by decide, fun L hL => pw 2 8 L 256 (by decide) (by decide) (by omega)⟩
  · exact ⟨6, ev_bin (ev_ix el e0 (ixL (n := 1) (get_new_same h _) rfl)) ev_cst op_addN, by decide, by decide, fun L hL => pw 3 5 L 256 (by decide) (by decide) (by omega)⟩
  · exact ⟨5, ev_bin (ev_ix el e0 (ixL (n := 2) (get_new_same h _) rfl)) ev_cst op_addN, by decide, by decide, fun L hL => pw 4 4 L 256 (by decide) (by decide) (by omega)⟩
theorem numbers_ok (q : Nat) {s : Nat} (h0 : DH) (h1 : 2 ≤ s) (h2 : s ≤ 4) (hp : h0.get 0 = some .pot) (hn : 0 < h0.n) : Ca (callK fns (q + 6)) 40 [.ref 0, .int (.ofNat s)] h0 (fun d h' => d = .bl true ∧ Ext h0 h') := by
  obtain ⟨n, en, n1, n2, n3⟩ := len_ev (h := h0) h1 h2 (fr := plainFr 8 [.ref 0, .int (.ofNat s)]) rfl
  refine ca_sb (bd := b__law_numbers_right) rfl rfl (sb_nm (P1 := fun d h' => ∃ L, d = .int (.ofNat L) ∧ L < n ∧ Ext h0 h') (ea_imp (ea_draw (q := q + 4) (jd := 28) (n := n) rfl rfl (by rw [get_new_ne _ _ (by omega)]; exact hp) en n1 (by omega)) fun d h' ⟨e1, L, e2, e3⟩ => ⟨L, e2, e3, by rw [e1]; exact Ext.new _ _⟩) fun d ha ⟨L, e, hL, xa⟩ => ?_)
  subst e
  have pL := n3 L hL
  have hL8 : L ≤ 8 := by omega
  have s0 : 0 < s ^ L := Nat.pow_pos (by omega)
  refine sb_nm (ea_cv (evs_cons (ev_var rfl) (evs_cons (ev_var rfl) evs_nil)) rfl (c36 (q + 4) s L ha (by omega) h2 (by omega) (by omega))) fun d hb ⟨i, e, i1, i2, gi, xb⟩ => ?_
  subst e
  refine sb_nm (ea_cv (evs_cons (ev_var rfl) (evs_cons (ev_var rfl) evs_nil)) rfl (c26 (q + 1) s L hb h1 h2 (by omega) (by omega))) fun d hc ⟨j, e, j1, j2, gj, xc⟩ => ?_
  subst e
  have base : Ext h0 hb := xa.trans xb
  refine sb_iff (R1 := fun h' => Ext hc h') (ta_rep (ea_lst (eas_v (ev_var rfl) (eas_cons (ea_cv (evs_cons (ev_var rfl) (evs_cons (ev_var rfl) evs_nil)) rfl (c26 (q + 1) s L hc h1 h2 (by omega) (by omega))) fun d hd ⟨k, e, k1, k2, gk, xd⟩ => eas_nil ?_)))) fun hd xd => ?_
  · subst e
    have xd2 := xd.trans (Ext.new hd (.lst [.ref j, .ref k]))
    exact ⟨_, rep_W2 h1 h2 hL8 pL (Nat.lt_of_lt_of_le j2 xd.le) (xd.get j2 gj) k2 gk, ea_ev (ev_lst (evs_cons (ev_var rfl) (evs_cons (ev_var rfl) evs_nil))) ⟨rep_W2 h1 h2 hL8 pL (Nat.lt_of_lt_of_le i2 (xc.trans xd2).le) ((xc.trans xd2).get i2 gi) (Nat.lt_of_lt_of_le i2 (xc.trans xd2).le) ((xc.trans xd2).get i2 gi), xd2.trans (Ext.new _ _)⟩⟩
  -- told.append(None)
  have gjd := xd.get j2 gj
  refine sb_ex (P1 := fun d h' => h' = hd.put j (.lst ((allW s L).map wd ++ [.non]))) (ea_ev (ev_mL (ev_var rfl) gjd (evs_cons ev_cst evs_nil) (append_ok gjd (by rw [List.length_map, allW_len]; omega))) rfl) fun d he ee => ?_
  have xe : Ext hb he := by rw [ee]; exact (xc.trans xd).put j1 _
  clear ee
  -- all words again
  refine sb_iff (R1 := fun h' => Ext hb h') (ta_rep (ea_cv (evs_cons (ev_var rfl) (evs_cons (ev_var rfl) evs_nil)) rfl (ca_imp (c26 (q + 1) s L he h1 h2 (by omega) (by omega)) fun d hf ⟨k, e, k1, k2, gk, xf⟩ => ?_))) fun hf xf => ?_
  · subst e
    have x2 := xe.trans xf
    exact ⟨_, rep_W1 h1 h2 hL8 pL k2 gk, ea_ev (ev_var rfl) ⟨rep_W1 h1 h2 hL8 pL (Nat.lt_of_lt_of_le i2 x2.le) (x2.get i2 gi), x2⟩⟩
  -- six numbers
  refine sb_seq (R1 := fun fr h' => Ext hb h') (sb_for (n := 6) (q := .rng 0 6) (Inv := fun m fr h' => Ext hb h' ∧ ∃ o5 o6 o7 o8 o9, fr = [some (.ref 0), some (.int (.ofNat s)), some (.int (.ofNat L)), some (.ref i), some (.ref j), o5, o6, o7, o8, o9]) (iv_rng1 (evs_cons ev_cst evs_nil) (by decide)) (by decide) ⟨xf, _, _, _, _, _, rfl⟩ (fun _ _ _ => rng_end) (fun m hm fr hg ⟨xg, o5, o6, o7, o8, o9, e⟩ => ?_) fun fr h' ⟨x, _⟩ => x) fun fr h' x => sb_ret (ea_ev ev_cst ⟨rfl, base.trans x⟩)
  subst e
  refine ⟨_, _, _, rng0 hm, go_nm, ?_⟩
  have gi' := xg.get i2 gi
  have pg : hg.get 0 = some .pot := (base.trans xg).get hn hp
  refine sb_nm (ea_draw (q := q + 4) (jd := 28) (n := s ^ L) (h' := hg) rfl rfl pg (by have e := ev_bc (evs_cons (ev_var (i := 3) (fr := [some (.ref 0), some (.int (.ofNat s)), some (.int (.ofNat L)), some (.ref i), some (.ref j), some (.int (.ofNat m)), o6, o7, o8, o9]) (h := hg) (d := .ref i) rfl) evs_nil) (len_l gi'); rw [List.length_map, allW_len] at e; exact e) s0 (by omega)) fun d h' ⟨e1, z, e2, hz⟩ => ?_
  subst e1 e2
  have hz' : z < (allW s L).length := by rw [allW_len]; exact hz
  refine sb_sv2 (sv_asg (ev_ix (ev_var rfl) (ev_var rfl) (ixL gi' (wds_get hz'))) go_nm) ?_
  have eW : (allW s L)[z] = digN s L z := by simp [allW]
  rw [eW]
  have wl := dig_len s L z
  have wk := dig_ok (s := s) (by omega) L z
  have wv := val_dig (s := s) (by omega) L z hz
  generalize digN s L z = W at wl wk wv
  have w4 := wok4 h2 wk
  -- word_at
  have ea : ∀ h, Cv (callK fns (q + 5)) 25 [.int (.ofNat s), .int (.ofNat L), .int (.ofNat z)] h (wd W) h := fun h => by
    have := c25 (q + 1) s L z h h1 h2 (by omega) hz
    rw [← dig_val (s := s) (by omega) wk, wl, wv]; exact this
  refine sb_iff (R1 := fun h2 => Ext hb h2) (ta_rep (ea_ev (ev_lst (evs_cons (ev_call (evs_cons (ev_var rfl) (evs_cons (ev_var rfl) (evs_cons (ev_var rfl) evs_nil))) rfl (ea h')) (evs_cons (ev_call (evs_cons (ev_var rfl) (evs_cons (ev_var rfl) (evs_cons (ev_var rfl) evs_nil))) rfl (ea h')) evs_nil))) ⟨_, rep_ww w4 w4 (by omega) (by omega), ea_ev (ev_lst (evs_cons (ev_var rfl) (evs_cons (ev_var rfl) evs_nil))) ⟨rep_ww w4 w4 (by omega) (by omega), (xg.trans (Ext.new _ _)).trans (Ext.new _ _)⟩⟩)) fun hh xh => ?_
  -- word_number
  have zs : Nat.log2 z ≤ 1900 := by
    by_cases z0 : z = 0
    · subst z0; decide
    · have := (Nat.log2_lt z0).mpr (show z < 2 ^ 8 by omega); omega
  refine sb_iff (R1 := fun h2 => Ext hb h2) (ta_rep (ea_lst (eas_cons (ea_cv (evs_cons (ev_var rfl) (evs_cons (ev_var rfl) evs_nil)) rfl (c24 (q + 1) s W hh h1 h2 (by omega) wk)) fun d ha ⟨e1, x1⟩ => eas_cons (ea_cv (evs_cons (ev_var rfl) (evs_cons (ev_var rfl) evs_nil)) rfl (c24 (q + 1) s W ha h1 h2 (by omega) wk)) fun d2 hb ⟨e2, x2⟩ => eas_nil ?_))) fun hi xi => ?_
  · subst e1 e2
    rw [wv]
    exact ⟨_, rep_nn zs zs, ea_ev (ev_lst (evs_cons (ev_var rfl) (evs_cons (ev_var rfl) evs_nil))) ⟨rep_nn zs zs, (((xh.trans x1).trans x2).trans (Ext.new _ _)).trans (Ext.new _ _)⟩⟩
  -- more
  refine sb_nm (ea_cv (evs_cons (ev_var rfl) (evs_cons (ev_var rfl) (evs_cons ev_cst evs_nil))) rfl (c31 (q + 3) (m := 5) (h := hi) (by omega) h2 (by decide) ((base.trans xi).get hn hp) (Nat.lt_of_lt_of_le hn (base.trans xi).le))) fun d hj ⟨v, e, v1, v2, xj⟩ => ?_
  subst e
  have wvk := wok_app wk v2
  have wvl : (W ++ v).length = L + v.length := by rw [List.length_append, wl]
  refine sb_nm (ea_call (eas_v (ev_var rfl) (eas_v (ev_bin (ev_var rfl) (ev_var rfl) (tup_wd (by omega))) (eas_nil ⟨_, rfl, c24 (q + 1) s (W ++ v) hj h1 h2 (by omega) wvk⟩)))) fun d hk ⟨e, xk⟩ => ?_
  subst e
  have pv : s ^ v.length ≤ 1024 := Nat.le_trans (Nat.pow_le_pow_left h2 _) (Nat.le_trans (Nat.pow_le_pow_right (by decide) v1) (by decide))
  have xk' := (xi.trans xj).trans xk
  refine sb_if (R1 := fun c h2 => c = false ∧ Ext hb h2) (ta_or (P1 := fun c h2 => c = false ∧ Ext hb h2) (ta_of (ea_cmp (ea_v (ev_var rfl)) fun x hl ⟨e1, e2⟩ => ea_bin (P := fun d h2 => d = .int (.ofNat (z * s ^ v.length)) ∧ Ext hb h2) (ea_bin (ea_v (ev_var rfl)) fun x2 hm ⟨e3, e4⟩ => ea_bc (eas_cons (ea_call (eas_v (ev_var rfl) (eas_v (ev_bc (evs_cons (ev_var rfl) evs_nil) wd_len) (eas_nil ⟨_, rfl, c36 (q + 4) s v.length _ (by omega) h2 (by omega) (by omega)⟩)))) fun d ho mo => eas_nil ?_)) fun x3 hq ⟨e5, xq⟩ => ea_cv (evs_cons (ev_var rfl) (evs_cons (ev_var rfl) evs_nil)) rfl (ca_imp (c24 (q + 1) s v hq h1 h2 (by omega) v2) fun d hr ⟨e6, xr⟩ => ?_))) (fun hl ⟨_, xl⟩ => ?_) fun h' ⟨e, _⟩ => by cases e) (fun h' ⟨e, _⟩ => by cases e) fun h' ⟨_, x⟩ => sb_nil ⟨x, _, _, _, _, _, rfl⟩
  · subst e1 e2 e3 e4
    refine ⟨_, _, mo.sq.len, _, _, ?_, rfl, xk'.trans mo.x⟩
    rw [List.length_map, allW_len]
    exact op_mulN (p := 20) (q := 20) (p20 (by omega)) (p20 (by omega)) (by decide) (by decide) (by decide)
  · subst e1 e5 e6
    refine ⟨_, _, op_addN, true, ?_, false, rfl, rfl, xq.trans xr⟩
    rw [eqN_, val_app, wv, decide_eq_true rfl]
  · have lt : valN s (W ++ v) < s ^ (L + v.length) := by rw [← wvl]; exact val_lt wvk
    have ew : Cv (callK fns (q + 5)) 25 [.int (.ofNat s), .int (.ofNat (L + v.length)), .int (.ofNat (valN s (W ++ v)))] hl (wd (W ++ v)) hl := by
      have := c25 (q + 1) s (L + v.length) (valN s (W ++ v)) hl h1 h2 (by omega) lt
      rw [← wvl, dig_val (s := s) (by omega) wvk, wvl] at this
      exact this
    refine ta_cmp (ev_call (evs_cons (ev_var rfl) (evs_cons (ev_bin (ev_var rfl) (ev_bc (evs_cons (ev_var rfl) evs_nil) wd_len) op_addN) (evs_cons (ev_var rfl) evs_nil))) rfl ew) (ev_bin (ev_var rfl) (ev_var rfl) (tup_wd (by omega))) (eqW (W ++ v) (W ++ v) hl) ⟨by rw [decide_eq_true rfl]; rfl, xl⟩
end L12

set_option Elab.async false
set_option linter.all false
set_option maxRecDepth 100000
set_option maxHeartbeats 4000000
namespace Dz
open PySem L2
section
variable {a b : Ex} {fr : Fr} {h h1 h2 : DH} {i j n : Nat} {xs ys : List DV}
theorem addL_ok (e : h.get i = some (.lst xs)) (e2 : h.get j = some (.lst ys)) (hl : xs.length + ys.length ≤ 16777216) : opAdd (.ref i) (.ref j) h = some (.ref h.n, h.new (.lst (xs ++ ys))) := by
  show obL none (h.get i) (fun a => obL none (h.get j) fun b => cnd (both a b) (newL (app a b) h) none) = _
  rw [e, e2]
  show cnd (fits (Nat.add (lenN xs) (lenN ys))) (newL (app xs ys) h) none = _
  rw [lenN_eq, lenN_eq, app_eq, fits_of (show Nat.add xs.length ys.length ≤ 16777216 from hl)]; rfl
theorem bound_take (n : Nat) (xs : List DV) : takeN (Nat.sub (cnd (Nat.ble n xs.length) n xs.length) 0) xs = xs.take n := by
  rw [takeN_eq]
  by_cases hn : n ≤ xs.length
  · rw [Nat.ble_eq.mpr hn]; rfl
  · have : Nat.ble n xs.length = false := by
      cases e : Nat.ble n xs.length with
      | false => rfl
      | true => exact absurd (Nat.le_of_ble_eq_true e) hn
    rw [this]
    show xs.take xs.length = _
    rw [List.take_of_length_le (Nat.le_refl _), List.take_of_length_le (by omega)]
theorem bound_drop (n : Nat) (xs : List DV) : takeN (Nat.sub xs.length (cnd (Nat.ble n xs.length) n xs.length)) (dropN (cnd (Nat.ble n xs.length) n xs.length) xs) = xs.drop n := by
  rw [takeN_eq, dropN_eq]
  by_cases hn : n ≤ xs.length
  · rw [Nat.ble_eq.mpr hn]
    show (xs.drop n).take (xs.length - n) = _
    exact List.take_of_length_le (by rw [List.length_drop]; omega)
  · have : Nat.ble n xs.length = false := by
      cases e : Nat.ble n xs.length with
      | false => rfl
      | true => exact absurd (Nat.le_of_ble_eq_true e) hn
    rw [this]
    show (xs.drop xs.length).take (xs.length - xs.length) = _
    rw [List.drop_eq_nil_of_le (by omega : xs.length ≤ n)]; simp
theorem ev_slL (ha : Ev a fr h (.ref i) h1) (hb : Ev b fr h1 (.int (.ofNat n)) h2) (g : h2.get i = some (.lst xs)) : Ev (cSl a oNo (oEx b)) fr h (.ref h2.n) (h2.new (.lst (xs.take n))) := fun kx k => by
  show a fr h kx (fun x h => b fr h kx fun d h => onI false d fun i => kh (slice x none (some i) h) k) = _
  rw [ha]
  show b fr h1 kx (fun d h => onI false d fun j => kh (slice (.ref i) none (some j) h) k) = _
  rw [hb]
  show kh (obL none (h2.get i) fun xs => newL (cut xs none (some (.ofNat n))) h2) k = _
  rw [g]
  show k (.ref h2.n) (h2.new (.lst (takeN (Nat.sub (cnd (Nat.ble n (lenN xs)) n (lenN xs)) 0) (dropN 0 xs)))) = _
  have e2 : dropN 0 xs = xs := by cases xs <;> rfl
  rw [e2, lenN_eq, bound_take]
theorem ev_slD (ha : Ev a fr h (.ref i) h1) (hb : Ev b fr h1 (.int (.ofNat n)) h2) (g : h2.get i = some (.lst xs)) : Ev (cSl a (oEx b) oNo) fr h (.ref h2.n) (h2.new (.lst (xs.drop n))) := fun kx k => by
  show a fr h kx (fun x h => b fr h kx fun d h => onI false d fun i => kh (slice x (some i) none h) k) = _
  rw [ha]
  show b fr h1 kx (fun d h => onI false d fun j => kh (slice (.ref i) (some j) none h) k) = _
  rw [hb]
  show kh (obL none (h2.get i) fun xs => newL (cut xs (some (.ofNat n)) none) h2) k = _
  rw [g]
  show k (.ref h2.n) (h2.new (.lst (takeN (Nat.sub (lenN xs) (cnd (Nat.ble n (lenN xs)) n (lenN xs))) (dropN (cnd (Nat.ble n (lenN xs)) n (lenN xs)) xs)))) = _
  rw [lenN_eq, bound_drop]
theorem any_ok {bs : List Bool} (g : h.get i = some (.lst (bs.map DV.bl))) : bAny [.ref i] h = some (.bl (bs.any id), h) := by
  show onO none (obL none (h.get i) some) (fun xs => boolD (boolAny xs) h) = _
  rw [g]
  show boolD (boolAny (bs.map DV.bl)) h = _
  have : ∀ bs : List Bool, boolAny (bs.map DV.bl) = some (bs.any id) := fun bs => by
    induction bs with
    | nil => rfl
    | cons b r ih =>
      show onB none (.bl b) (fun b => onO none (boolAny (r.map DV.bl)) fun c => some (cnd b true c)) = _
      rw [ih]
      cases b <;> rfl
  rw [this]; rfl
theorem comm_self : ∀ (u : List Nat) (n : Nat), comm u (u.take n) = u.take n
  | [], n => by simp [comm]
  | a :: u, 0 => rfl
  | a :: u, n + 1 => by
    show (if a = a then a :: comm u (u.take n) else []) = _
    rw [if_pos rfl, comm_self u n]; rfl
theorem clash_split (s : Nat) (w : List Nat) : Apart (splitW s w) := fun i j hj hi => by
  unfold splitW at *
  rw [List.getElem_map, List.getElem_map, List.getElem_range, List.getElem_range]
  unfold clash beg
  rw [Bool.or_eq_false_iff, decide_eq_false_iff_not, decide_eq_false_iff_not]
  have e : ∀ m n : Nat, (w ++ [m]).take (w ++ [n]).length = w ++ [m] := fun m n => List.take_of_length_le (by simp)
  rw [e, e]
  refine ⟨fun z => ?_, fun z => ?_⟩
  · have := List.append_cancel_left z; simp at this; omega
  · have := List.append_cancel_left z; simp at this; omega
theorem split_ok {s : Nat} {w : List Nat} (hw : wok s w) : ∀ x ∈ splitW s w, wok s x ∧ x.length = w.length + 1 := fun x hx => by
  obtain ⟨c, hc, rfl⟩ := List.mem_map.mp hx
  exact ⟨wok_app hw fun y hy => by rw [List.mem_singleton.mp hy]; exact List.mem_range.mp hc, by simp⟩
theorem split_len (s : Nat) (w : List Nat) : (splitW s w).length = s := by unfold splitW; simp
end
end Dz
namespace L12
open PySem L2 Dz
abbrev frR (s f : Nat) (o3 o4 o5 o6 o7 o8 o9 o10 o11 o12 o13 : Option DV) : Fr := [some (.ref 0), some (.int (.ofNat s)), some (.ref f), o3, o4, o5, o6, o7, o8, o9, o10, o11, o12, o13]
theorem rep_S2 {s : Nat} {w : List Nat} (h2 : s ≤ 4) (hw : wok s w) (hl : w.length ≤ 11) {i j : Nat} {h : DH} (hi : i < h.n) (g : h.get i = some (.lst ((splitW s w).map wd))) (hj : j < h.n) (g2 : h.get j = some (.lst ((splitW s w).map wd))) : RepL (h.new (.lst [.ref i, .ref j])) (.ref h.n) (t2 (tWs (splitW s w)) (tWs (splitW s w))) := by
  have B : ∀ {i : Nat}, i < h.n → h.get i = some (.lst ((splitW s w).map wd)) → Tex 39 h (.ref i) (tWs (splitW s w)) 40000 := fun {i} hi g h' x => by
    obtain ⟨a, b, c⟩ := txt_wds (n := 36) (L := 12) hi g (fun y hy => by obtain ⟨q1, q2⟩ := split_ok hw y hy; exact ⟨wok4 h2 q1, by omega⟩) h' x
    refine ⟨a, ?_, c⟩
    rw [split_len] at b
    have : s * (12 * 602 + 5) ≤ 4 * (12 * 602 + 5) := Nat.mul_le_mul_right _ h2
    omega
  exact ⟨_, _, _, rfl, get_new_same _ _, txt_two (n := 39) (B hi g) (B hj g2), by decide⟩
theorem rep_S1 {s : Nat} {w : List Nat} (h2 : s ≤ 4) (hw : wok s w) (hl : w.length ≤ 11) {i : Nat} {h : DH} (hi : i < h.n) (g : h.get i = some (.lst ((splitW s w).map wd))) : RepL h (.ref i) (tWs (splitW s w)) := by
  refine ⟨i, _, 40000, rfl, g, fun h' x => ?_, by decide⟩
  obtain ⟨a, b, c⟩ := txt_wds (n := 37) (L := 12) hi g (fun y hy => by obtain ⟨q1, q2⟩ := split_ok hw y hy; exact ⟨wok4 h2 q1, by omega⟩) h' x
  refine ⟨a, ?_, c⟩
  rw [split_len] at b
  have : s * (12 * 602 + 5) ≤ 4 * (12 * 602 + 5) := Nat.mul_le_mul_right _ h2
  omega
/-! ### each word beside each -/
theorem words_ok (q : Nat) {s f : Nat} {hB : DH} {ws : List (List Nat)} {P : DV → DH → Prop} {o3 o4 o5 o6 o7 o8 o9 o10 o11 o12 o13 : Option DV} (h1 : 2 ≤ s) (h2 : s ≤ 4) (hf : f < hB.n) (g : hB.get f = some (.lst (ws.map wd))) (hw : ∀ w ∈ ws, w.length ≤ 11 ∧ wok s w) (hl : ws.length ≤ 1000) {r : Sx}
    (hr : ∀ fr h', Ext hB h' → (∃ o3 o4 o5 o6 o7 o8, fr = frR s f o3 o4 o5 o6 o7 o8 o9 o10 o11 o12 o13) → Sb r fr h' (fun _ _ => False) P) :
    Sb (sSeq (sFor (gNm 4) (iSeq (cVar 2)) (sSeq (sIf (tOr (tNot (cTest (cBc bAll (cCons (cLc [5] (cCall (callK fns (q + 7)) 39 [.at_ 0, .at_ 1, .at_ 2] (cCons (cVar 1) (cCons (cVar 4) (cCons (cVar 5) cNil)))) (gNm 5) (iSeq (cVar 2))) cNil)))) (tNot (cTest (cCall (callK fns (q + 7)) 19 [.at_ 0, .at_ 1] (cCons (cVar 1) (cCons (cVar 4) cNil)))))) (sRet (cCst (.bl false))) sNil) (sSeq (sAsg (gNm 6) (cLc [7] (cBin opAdd (cVar 4) (cTup (cCons (cVar 7) cNil))) (gNm 7) (iRng (cCons (cVar 1) cNil)))) (sSeq (sAsg (gNm 8) (cCall (callK fns (q + 7)) 22 [.at_ 0, .at_ 1] (cCons (cVar 1) (cCons (cVar 4) cNil)))) (sSeq (sIf (tOr (cTest (cCmp true eqC (cBc bRepr (cCons (cLst (cCons (cVar 8) (cCons (cCall (callK fns (q + 7)) 22 [.at_ 1, .at_ 0] (cCons (cVar 4) (cCons (cVar 1) cNil))) cNil))) cNil)) (cBc bRepr (cCons (cLst (cCons (cVar 6) (cCons (cVar 6) cNil))) cNil)))) (cTest (cCmp true isC (cCall (callK fns (q + 7)) 21 [.at_ 0, .at_ 1] (cCons (cVar 1) (cCons (cVar 8) cNil))) (cCst (.bl true))))) (sRet (cCst (.bl false))) sNil) (sSeq (sExpr (cML mAppend (cVar 8) (cCons (cCst .non) cNil))) (sIf (cTest (cCmp true eqC (cBc bRepr (cCons (cCall (callK fns (q + 7)) 22 [.at_ 0, .at_ 1] (cCons (cVar 1) (cCons (cVar 4) cNil))) cNil)) (cBc bRepr (cCons (cVar 6) cNil)))) (sRet (cCst (.bl false))) sNil))))))) r) (frR s f o3 o4 o5 o6 o7 o8 o9 o10 o11 o12 o13) hB (fun _ _ => False) P := by
  refine sb_seq (R1 := fun fr h' => Ext hB h' ∧ ∃ o3 o4 o5 o6 o7 o8, fr = frR s f o3 o4 o5 o6 o7 o8 o9 o10 o11 o12 o13) (sb_for (n := ws.length) (q := .sq (.ref f)) (Inv := fun m fr h' => Ext hB h' ∧ ∃ o3 o4 o5 o6 o7 o8, fr = frR s f o3 o4 o5 o6 o7 o8 o9 o10 o11 o12 o13) (iv_sqL (ev_var rfl) g) (by omega) ⟨Ext.refl _, _, _, _, _, _, _, rfl⟩ (fun fr h' ⟨x, _⟩ => it_lE (x.get hf g) (by rw [List.length_map]; omega)) (fun m hm fr h' ⟨x, o3, o4, o5, o6, o7, o8, e⟩ => ?_) fun fr h' p => p) fun fr h' ⟨x, e⟩ => hr fr h' x e
  subst e
  obtain ⟨w1, w2⟩ := hw ws[m] (List.getElem_mem hm)
  refine ⟨_, _, _, it_l (x.get hf g) (wds_get hm), go_nm, ?_⟩
  generalize ws[m] = w at w1 w2
  refine sb_iff (R1 := fun h2 => Ext hB h2) (ta_or (P1 := fun c h2 => c = false ∧ Ext hB h2) (ta_not (ta_of (ea_bc (eas_cons (P := fun d h3 => ∃ i xs, d = .ref i ∧ h3.get i = some (.lst xs) ∧ (∀ y ∈ xs, y = .bl true) ∧ Ext hB h3) (ea_lc (n := ws.length) (h1 := h') (q := .sq (.ref f)) (Inv := fun i h3 acc => (∀ y ∈ acc, y = .bl true) ∧ Ext hB h3) (iv_sqL (ev_var rfl) (x.get hf g)) (by omega) ⟨by simp, x⟩ (fun h3 acc ⟨_, y⟩ => it_lE (y.get hf g) (by rw [List.length_map]; omega)) (fun h3 acc ⟨a1, a2⟩ => ⟨_, _, rfl, get_new_same _ _, fun y hy => a1 y (List.mem_reverse.mp hy), a2.trans (Ext.new _ _)⟩) fun i hi h3 acc ⟨a1, a2⟩ => ?_) fun d h3 ⟨i, xs, e1, e2, e3, e4⟩ => ?_)))) (fun h3 ⟨_, x3⟩ => ?_) fun h3 ⟨e, _⟩ => by cases e) fun ha xa => ?_
  · obtain ⟨v1, v2⟩ := hw ws[i] (List.getElem_mem hi)
    refine ⟨_, _, _, it_l (a2.get hf g) (wds_get hi), go_nm, ea_cv (evs_cons (ev_var rfl) (evs_cons (ev_var rfl) (evs_cons (ev_var rfl) evs_nil))) rfl (ca_imp (two_ok (q + 1) h3 h1 h2 (by omega) w2 (by omega) v2) fun d h4 ⟨e5, y⟩ => ⟨fun z hz => ?_, a2.trans y⟩)⟩
    rcases List.mem_cons.mp hz with rfl | hz
    · exact e5
    · exact a1 z hz
  · subst e1
    exact eas_nil ⟨_, _, all_true e2 e3, true, rfl, rfl, e4⟩
  · exact ta_not (ta_of (ea_cv (evs_cons (ev_var rfl) (evs_cons (ev_var rfl) evs_nil)) rfl (ca_imp (c19 (q + 3) s w h3 h1 h2 (by omega) w2) fun d h4 ⟨e5, y⟩ => ⟨true, e5, rfl, x3.trans y⟩)))
  -- due, told
  refine sb_nm (ea_splitLc (w := w) (by omega) (by omega) rfl (fun c => rfl) (fun c => rfl)) fun d hb ⟨e1, e2⟩ => ?_
  subst e1 e2
  have gd : (ha.new (.lst ((splitW s w).map wd))).get ha.n = some (.lst ((splitW s w).map wd)) := get_new_same _ _
  have nd : ha.n < (ha.new (.lst ((splitW s w).map wd))).n := Nat.lt_succ_self _
  have xb : Ext hB (ha.new (.lst ((splitW s w).map wd))) := xa.trans (Ext.new _ _)
  generalize ha.new (.lst ((splitW s w).map wd)) = hb at gd nd xb
  generalize ha.n = i at gd nd
  refine sb_nm (ea_cv (evs_cons (ev_var rfl) (evs_cons (ev_var rfl) evs_nil)) rfl (c22 (q + 3) s w hb h1 h2 (by omega) w2)) fun d hc ⟨j, e, j1, j2, gj, xc⟩ => ?_
  subst e
  refine sb_iff (R1 := fun h' => Ext hc h') (ta_or (P1 := fun c h' => c = false ∧ Ext hc h') (ta_rep (ea_lst (eas_v (ev_var rfl) (eas_cons (ea_cv (evs_cons (ev_var rfl) (evs_cons (ev_var rfl) evs_nil)) rfl (c22 (q + 3) s w hc h1 h2 (by omega) w2)) fun d hd ⟨k, e, k1, k2, gk, xd⟩ => eas_nil ?_)))) (fun h3 ⟨_, x3⟩ => ?_) fun h3 ⟨e, _⟩ => by cases e) fun hd xd => ?_
  · subst e
    have xd2 := xd.trans (Ext.new hd (.lst [.ref j, .ref k]))
    exact ⟨_, rep_S2 h2 w2 w1 (Nat.lt_of_lt_of_le j2 xd.le) (xd.get j2 gj) k2 gk, ea_ev (ev_lst (evs_cons (ev_var rfl) (evs_cons (ev_var rfl) evs_nil))) ⟨rep_S2 h2 w2 w1 (Nat.lt_of_lt_of_le nd (xc.trans xd2).le) ((xc.trans xd2).get nd gd) (Nat.lt_of_lt_of_le nd (xc.trans xd2).le) ((xc.trans xd2).get nd gd), xd2.trans (Ext.new _ _)⟩⟩
  · refine ta_of (ea_cmp (ea_call (eas_v (ev_var rfl) (eas_v (ev_var rfl) (eas_nil ⟨_, rfl, c21 (q + 2) s (.ref j) (splitW s w) h3 h1 h2 (.inl ⟨j, rfl, Nat.lt_of_lt_of_le j2 x3.le, x3.get j2 gj⟩) (by rw [split_len]; omega) fun y hy => ?_⟩)))) fun d h4 ⟨⟨t, e4, ht⟩, x4⟩ => ea_ev ev_cst ?_)
    · obtain ⟨q1, q2⟩ := split_ok w2 y hy
      exact ⟨by omega, q1⟩
    · have ht := ht.mpr (clash_split s w)
      subst e4 ht
      exact ⟨true, rfl, false, rfl, rfl, x3.trans x4⟩
  have gjd := xd.get j2 gj
  refine sb_ex (P1 := fun d h' => h' = hd.put j (.lst ((splitW s w).map wd ++ [.non]))) (ea_ev (ev_mL (ev_var rfl) gjd (evs_cons ev_cst evs_nil) (append_ok gjd (by rw [List.length_map, split_len]; omega))) rfl) fun d he ee => ?_
  have xe : Ext hb he := by rw [ee]; exact (xc.trans xd).put j1 _
  clear ee
  refine sb_if (R1 := fun c h' => c = false ∧ Ext hb h') (ta_rep (ea_cv (evs_cons (ev_var rfl) (evs_cons (ev_var rfl) evs_nil)) rfl (ca_imp (c22 (q + 3) s w he h1 h2 (by omega) w2) fun d hf' ⟨k, e, k1, k2, gk, xf⟩ => ?_))) (fun h' ⟨e, _⟩ => by cases e) fun h' ⟨_, y⟩ => sb_nil ⟨xb.trans y, _, _, _, _, _, _, rfl⟩
  subst e
  have x2 := xe.trans xf
  exact ⟨_, rep_S1 h2 w2 w1 k2 gk, ea_ev (ev_var rfl) ⟨rep_S1 h2 w2 w1 (Nat.lt_of_lt_of_le nd x2.le) (x2.get nd gd), x2⟩⟩
end L12

set_option Elab.async false
set_option linter.all false
set_option maxRecDepth 100000
set_option maxHeartbeats 4000000
namespace L12
open PySem L2 Dz
/-! ### three words apart, by the law's own look -/
def hitL (S : List (List Nat)) (i : Nat) : Bool := ((S.drop (i + 1)).map fun x => clash (S.getD i []) x).any id
theorem hit_apart {S : List (List Nat)} (hl : S.length = 3) : ((!(((List.range 3).map (hitL S)).any id)) = true ↔ Apart S) := by
  rw [Bool.not_eq_true', List.any_eq_false]
  constructor
  · intro a i j hj hi
    have h1 := a (hitL S i) (List.mem_map.mpr ⟨i, List.mem_range.mpr (by omega), rfl⟩)
    have h2 : hitL S i = false := by simpa using h1
    unfold hitL at h2
    rw [List.any_eq_false] at h2
    have hm : S[j] ∈ S.drop (i + 1) := List.mem_drop_iff_getElem.mpr ⟨j - (i + 1), by omega, by congr 1; omega⟩
    have h3 := h2 (clash (S.getD i []) S[j]) (List.mem_map.mpr ⟨_, hm, rfl⟩)
    have e : S.getD i [] = S[i]'(by omega) := by rw [List.getD_eq_getElem?_getD, List.getElem?_eq_getElem (by omega)]; rfl
    rw [e] at h3
    simpa using h3
  · intro a x hx
    obtain ⟨i, hi, rfl⟩ := List.mem_map.mp hx
    have hi := List.mem_range.mp hi
    have : hitL S i = false := by
      unfold hitL
      rw [List.any_eq_false]
      intro y hy
      obtain ⟨z, hz, rfl⟩ := List.mem_map.mp hy
      obtain ⟨k, hk, rfl⟩ := List.mem_drop_iff_getElem.mp hz
      have e : S.getD i [] = S[i]'(by omega) := by rw [List.getD_eq_getElem?_getD, List.getElem?_eq_getElem (by omega)]; rfl
      have := a i (i + 1 + k) (by omega) (by omega)
      rw [e]
      simpa using this
    simpa using this
section
variable {q s f g : Nat} {h : DH} {S : List (List Nat)} {o3 o4 o5 o6 o7 o8 o10 o11 o12 o13 : Option DV}
theorem apart_ea (hg : g < h.n) (e : h.get g = some (.lst (S.map wd))) (hl : S.length = 3) :
    Ea (cNot (cBc bAny (cCons (cLc [11] (cBc bAny (cCons (cLc [10] (cCall (callK fns (q + 2)) 33 [.at_ 0, .at_ 1] (cCons (cIx (cVar 9) (cVar 11)) (cCons (cVar 10) cNil))) (gNm 10) (iSeq (cSl (cVar 9) (oEx (cBin opAdd (cVar 11) (cCst (.int (.ofNat 1))))) oNo))) cNil)) (gNm 11) (iRng (cCons (cCst (.int (.ofNat 3))) cNil))) cNil)))
      (frR s f o3 o4 o5 o6 o7 o8 (some (.ref g)) o10 o11 o12 o13) h (fun d h' => d = .bl (!(((List.range 3).map (hitL S)).any id)) ∧ Ext h h') := by
  refine ea_not (ea_bc (eas_cons (P := fun d h' => ∃ i, d = .ref i ∧ h'.get i = some (.lst (((List.range 3).map (hitL S)).map DV.bl)) ∧ Ext h h') (ea_lc (n := 3) (h1 := h) (q := .rng 0 3) (Inv := fun i h' acc => Ext h h' ∧ acc.reverse = ((List.range i).map (hitL S)).map DV.bl) (iv_rng1 (evs_cons ev_cst evs_nil) (by decide)) (by decide) ⟨Ext.refl _, rfl⟩ (fun _ _ _ => rng_end) (fun h' acc ⟨x, e2⟩ => ⟨_, rfl, by rw [get_new_same, e2], x.trans (Ext.new _ _)⟩) fun i hi h' acc ⟨x, e2⟩ => ?_) fun d h' ⟨i, e1, e2, x⟩ => ?_))
  · refine ⟨_, _, _, rng0 hi, go_nm, ea_bc (eas_cons (P := fun d h2 => ∃ j, d = .ref j ∧ h2.get j = some (.lst (((S.drop (i + 1)).map fun x => clash (S.getD i []) x).map DV.bl)) ∧ Ext h h2) ?_ fun d h2 ⟨j, e3, e4, x2⟩ => ?_)⟩
    · have ei : S.getD i [] = S[i]'(by omega) := by rw [List.getD_eq_getElem?_getD, List.getElem?_eq_getElem (by omega)]; rfl
      have gs := get_new_same h' (.lst ((S.map wd).drop (i + 1)))
      have xs : Ext h (h'.new (.lst ((S.map wd).drop (i + 1)))) := x.trans (Ext.new _ _)
      refine ea_lc (n := (S.drop (i + 1)).length) (h1 := h'.new (.lst ((S.map wd).drop (i + 1)))) (q := .sq (.ref h'.n)) (Inv := fun k h2 acc => Ext (h'.new (.lst ((S.map wd).drop (i + 1)))) h2 ∧ acc.reverse = (((S.drop (i + 1)).take k).map fun x => clash (S.getD i []) x).map DV.bl)
        (iv_sqL (ev_slD (n := i + 1) (ev_var rfl) (ev_bin (ev_var rfl) ev_cst op_addN) (x.get hg e)) gs) (by rw [List.length_drop]; omega) ⟨Ext.refl _, by simp⟩ (fun h2 acc ⟨y, _⟩ => it_lE (y.get (Nat.lt_succ_self _) gs) (by rw [List.length_drop, List.length_map, List.length_drop]; omega)) (fun h2 acc ⟨y, e5⟩ => ⟨_, rfl, by rw [get_new_same, e5, List.take_of_length_le (Nat.le_refl _)], (xs.trans y).trans (Ext.new _ _)⟩) fun k hk h2 acc ⟨y, e5⟩ => ?_
      have hk' : ((S.map wd).drop (i + 1))[k]? = some (wd (S.drop (i + 1))[k]) := by
        rw [← List.map_drop, List.getElem?_map, List.getElem?_eq_getElem hk]; rfl
      refine ⟨_, _, _, it_l (y.get (Nat.lt_succ_self _) gs) hk', go_nm, ea_ev (ev_call (evs_cons (ev_ix (ev_var rfl) (ev_var rfl) (ixL (n := i) ((xs.trans y).get hg e) (wds_get (by omega)))) (evs_cons (ev_var rfl) evs_nil)) rfl (c33 q _ _ h2)) ⟨y, ?_⟩⟩
      rw [List.reverse_cons, e5, List.take_succ_eq_append_getElem hk, List.map_append, List.map_append, ei]; rfl
    · subst e3
      refine eas_nil ⟨_, _, any_ok e4, x2, ?_⟩
      rw [List.reverse_cons, e2, List.range_succ, List.map_append, List.map_append]; rfl
  · subst e1
    exact eas_nil ⟨_, _, any_ok e2, _, rfl, rfl, x⟩
end
theorem long_ea (q : Nat) {s m : Nat} {fr : Fr} {h : DH} (h1 : 1 ≤ s) (h2 : s ≤ 4) (hm : m ≤ 1000) (hp : h.get 0 = some .pot) (hn : 0 < h.n) (e0 : ∀ x : DV, nth (setAt (setAt fr 7 none) 7 (some x)) 0 = some (some (.ref 0))) (e1 : ∀ x : DV, nth (setAt (setAt fr 7 none) 7 (some x)) 1 = some (some (.int (.ofNat s)))) :
    Ea (cBc bTuple (cCons (cLc [7] (cCall (callK fns (q + 1)) 28 [.at_ 0, .at_ 1] (cCons (cVar 0) (cCons (cVar 1) cNil))) (gNm 7) (iRng (cCons (cCst (.int (.ofNat m))) cNil))) cNil)) fr h (fun d h' => ∃ w, d = wd w ∧ w.length = m ∧ wok s w ∧ Ext h h') := by
  refine ea_bc (eas_cons (P := fun d h2 => ∃ w, Sq h2 d (w.map fun c => DV.int (.ofNat c)) ∧ w.length = m ∧ wok s w ∧ Ext h h2) (ea_lc (n := m) (h1 := h) (q := .rng 0 m) (Inv := fun i h3 acc => ∃ w : List Nat, acc.reverse = (w.map fun c => DV.int (.ofNat c)) ∧ w.length = i ∧ wok s w ∧ Ext h h3) (iv_rng1 (evs_cons ev_cst evs_nil) (by omega)) (by omega) ⟨[], rfl, rfl, wok_nil, Ext.refl _⟩ (fun _ _ _ => rng_end) (fun h3 acc ⟨w, e1, e2, e3, x⟩ => ⟨w, by rw [← e1]; exact Sq.new _ _, by omega, e3, x.trans (Ext.new _ _)⟩) fun i hi h3 acc ⟨w, a1, a2, a3, x⟩ => ⟨_, _, _, rng0 hi, go_nm, ea_imp (ea_draw (n := s) (h' := h3) rfl (e0 _) (x.get hn hp) (ev_var (e1 _)) (by omega) (by omega)) fun d h4 ⟨e4, c, e5, e6⟩ => ?_⟩) fun d h2 ⟨w, w1, w2, w3, w4⟩ => ?_)
  · subst e4 e5
    exact ⟨w ++ [c], by rw [List.reverse_cons, a1, List.map_append]; rfl, by rw [List.length_append, a2]; rfl, wok_app a3 fun y hy => by rw [List.mem_singleton.mp hy]; exact e6, x⟩
  · refine eas_nil ⟨_, _, ?_, w, rfl, w2, w3, w4⟩
    show onO none (seqOf d h2) (fun xs => some (DV.tup xs, h2)) = _
    rw [w1.seq]; rfl
abbrev fr1 (s : Nat) : Fr := [some (.ref 0), some (.int (.ofNat s)), none, none, none, none, none, none, none, none, none, none, none, none]
theorem r_ok (q : Nat) {s : Nat} (h0 : DH) (h1 : 2 ≤ s) (h2 : s ≤ 4) (hp : h0.get 0 = some .pot) (hn : 0 < h0.n) : Sb (r__law_right (callK fns (q + 7))) (fr1 s) h0 (fun _ _ => False) (fun d h' => d = .bl true ∧ Ext h0 h') := by
  -- words
  refine sb_nm (P1 := fun d h' => ∃ (f : Nat) (ws : List (List Nat)), d = .ref f ∧ h0.n ≤ f ∧ f < h'.n ∧ h'.get f = some (.lst (ws.map wd)) ∧ ws.length = 6 ∧ (∀ w ∈ ws, w.length ≤ 8 ∧ wok s w) ∧ Ext h0 h') (ea_bin (P := fun d h' => ∃ (f : Nat) (ws : List (List Nat)), d = .ref f ∧ f < h'.n ∧ h'.get f = some (.lst (ws.map wd)) ∧ ws.length = 5 ∧ (∀ w ∈ ws, w.length ≤ 8 ∧ wok s w) ∧ Ext h0 h') (ea_lc (n := 5) (h1 := h0) (q := .rng 0 5) (Inv := fun i h' acc => ∃ ws : List (List Nat), acc.reverse = ws.map wd ∧ ws.length = i ∧ (∀ w ∈ ws, w.length ≤ 8 ∧ wok s w) ∧ Ext h0 h') (iv_rng1 (evs_cons ev_cst evs_nil) (by decide)) (by decide) ⟨[], rfl, rfl, by simp, Ext.refl _⟩ (fun _ _ _ => rng_end)
      (fun h' acc ⟨ws, e1, e2, e3, x⟩ => ⟨h'.n, ws, rfl, Nat.lt_succ_self _, by rw [get_new_same, e1], e2, e3, x.trans (Ext.new _ _)⟩) fun i hi h' acc ⟨ws, e1, e2, e3, x⟩ => ?_) fun d h' ⟨f, ws, e1, f2, g, l, hw, x⟩ => ea_ev (ev_lst (evs_cons (ev_tup evs_nil) evs_nil)) ?_) fun d ha ⟨f, ws, e, f1, f2, g, l, hw, xa⟩ => ?_
  · refine ⟨_, _, _, rng0 hi, go_nm, ea_cv (evs_cons (ev_var rfl) (evs_cons (ev_var rfl) (evs_cons ev_cst evs_nil))) rfl (ca_imp (c31 (q + 5) (m := 8) (h := h') (by omega) h2 (by decide) (x.get hn hp) (Nat.lt_of_lt_of_le hn x.le)) fun d h3 ⟨w, e, w1, w2, y⟩ => ⟨ws ++ [w], ?_, by rw [List.length_append, e2]; rfl, fun z hz => ?_, x.trans y⟩)⟩
    · subst e
      rw [List.reverse_cons, e1, List.map_append]; rfl
    · rcases List.mem_append.mp hz with hz | hz
      · exact e3 z hz
      · rw [List.mem_singleton.mp hz]; exact ⟨w1, w2⟩
  · subst e1
    have g2 : (h'.new (.lst [.tup []])).get f = some (.lst (ws.map wd)) := by rw [get_new_ne _ _ (by omega)]; exact g
    refine ⟨_, _, addL_ok (ys := [.tup []]) g2 (get_new_same h' _) (by rw [List.length_map, l]; decide), _, ws ++ [[]], rfl, Nat.le_trans x.le (Nat.le_succ _), Nat.lt_succ_self _, by rw [get_new_same, List.map_append]; rfl, by rw [List.length_append, l]; rfl, fun z hz => ?_, (x.trans (Ext.new _ _)).trans (Ext.new _ _)⟩
    rcases List.mem_append.mp hz with hz | hz
    · exact hw z hz
    · rw [List.mem_singleton.mp hz]; exact ⟨Nat.zero_le _, wok_nil⟩
  subst e
  have l0 : 0 < ws.length := by omega
  obtain ⟨a1, a2⟩ := hw ws[0] (List.getElem_mem l0)
  -- words.append(..)
  refine sb_ex (P1 := fun d h' => ∃ ws2 : List (List Nat), h'.get f = some (.lst (ws2.map wd)) ∧ f < h'.n ∧ ws2.length = 7 ∧ (∀ w ∈ ws2, w.length ≤ 11 ∧ wok s w) ∧ Ext h0 h') (ea_mL (ea_ev (ev_var rfl) ⟨f, _, rfl, g, eas_cons (P := fun d h' => ∃ v, d = wd (ws[0] ++ v) ∧ v.length ≤ 3 ∧ wok s v ∧ Ext ha h') (ea_bin (ea_v (ev_ix (ev_var rfl) ev_cst (ixL (n := 0) g (wds_get l0)))) fun x hb ⟨e1, e2⟩ => ea_cv (evs_cons (ev_var rfl) (evs_cons (ev_var rfl) (evs_cons ev_cst evs_nil))) rfl (ca_imp (c31 (q + 5) (m := 3) (h := hb) (by omega) h2 (by decide) (by rw [e2]; exact xa.get hn hp) (by rw [e2]; exact Nat.lt_of_lt_of_le hn xa.le)) fun d hc ⟨v, e3, v1, v2, y⟩ => ?_)) fun d hc ⟨v, e3, v1, v2, y⟩ => ?_⟩)) fun d hb ⟨ws2, g2, f3, l2, hw2, xb⟩ => ?_
  · subst e1 e2 e3
    exact ⟨_, _, tup_wd (by omega), v, rfl, v1, v2, y⟩
  rotate_left
  · subst e3
    have gc := y.get f2 g
    refine eas_nil ⟨_, _, append_ok gc (by rw [List.length_map, l]; decide), ws ++ [ws[0] ++ v], by rw [get_put_same, List.map_append]; rfl, by rw [put_n]; exact Nat.lt_of_lt_of_le f2 y.le, by rw [List.length_append, l]; rfl, fun z hz => ?_, (xa.trans y).put f1 _⟩
    rcases List.mem_append.mp hz with hz | hz
    · obtain ⟨q1, q2⟩ := hw z hz; exact ⟨by omega, q2⟩
    · rw [List.mem_singleton.mp hz]
      exact ⟨by rw [List.length_append]; omega, wok_app a2 v2⟩
  -- each beside each
  refine words_ok q (o9 := none) (o10 := none) (o11 := none) (o12 := none) (o13 := none) h1 h2 f3 g2 hw2 (by omega) fun fr hc xc ⟨o3, o4, o5, o6, o7, o8, e⟩ => ?_
  subst e
  have gc := xc.get f3 g2
  have xc0 := xb.trans xc
  -- some
  refine sb_sv2 (sv_asg (ev_slL (n := 3) (ev_var rfl) ev_cst gc) go_nm) ?_
  have lS : (ws2.take 3).length = 3 := by rw [List.length_take]; omega
  have hS : ∀ w ∈ ws2.take 3, w.length ≤ 40 ∧ wok s w := fun w hw' => by obtain ⟨q1, q2⟩ := hw2 w (List.mem_of_mem_take hw'); exact ⟨by omega, q2⟩
  have gS : (hc.new (.lst ((ws2.map wd).take 3))).get hc.n = some (.lst ((ws2.take 3).map wd)) := by rw [get_new_same, List.map_take]
  have nS : hc.n < (hc.new (.lst ((ws2.map wd).take 3))).n := Nat.lt_succ_self _
  have xS : Ext h0 (hc.new (.lst ((ws2.map wd).take 3))) := xc0.trans (Ext.new _ _)
  generalize hc.new (.lst ((ws2.map wd).take 3)) = hd at gS nS xS
  generalize hc.n = g' at gS nS
  generalize ws2.take 3 = S at lS hS gS
  refine sb_nm (apart_ea (q := q + 5) nS gS lS) fun d he ⟨e, xe⟩ => ?_
  subst e
  have hA := hit_apart lS
  generalize (!(((List.range 3).map (hitL S)).any id)) = due at hA
  refine sb_iff (R1 := fun h' => Ext hd h') (ta_or (P1 := fun c h' => c = false ∧ Ext hd h') (ta_of (ea_cmp (ea_cv (evs_cons (ev_var rfl) (evs_cons (ev_var rfl) evs_nil)) rfl (c21 (q + 2) s (.ref g') S he h1 h2 (.inl ⟨g', rfl, Nat.lt_of_lt_of_le nS xe.le, xe.get nS gS⟩) (by omega) hS)) fun d h3 ⟨⟨t, e3, ht⟩, x3⟩ => ea_ev (ev_var rfl) ?_)) (fun h3 ⟨_, x3⟩ => ta_not (ta_of (ea_cv (evs_cons (ev_var rfl) (evs_cons (ev_var rfl) evs_nil)) rfl (ca_imp (numbers_ok (q + 1) h3 h1 h2 ((xS.trans x3).get hn hp) (Nat.lt_of_lt_of_le hn (xS.trans x3).le)) fun d h4 ⟨e5, y⟩ => ⟨true, e5, rfl, x3.trans y⟩)))) fun h3 ⟨e, _⟩ => by cases e) fun hf xf => ?_
  · subst e3
    have : t = due := by
      cases t with
      | true => exact (hA.mpr (ht.mp rfl)).symm
      | false =>
        cases due with
        | true => exact absurd (ht.mpr (hA.mp rfl)) (by simp)
        | false => rfl
    exact ⟨true, by rw [eqB, this, decide_eq_true rfl], false, rfl, rfl, xe.trans x3⟩
  -- forty letters
  have pf := (xS.trans xf).get hn hp
  have nf := Nat.lt_of_lt_of_le hn (xS.trans xf).le
  refine sb_nm (long_ea (q + 6) (m := 40) (h := hf) (by omega) h2 (by decide) pf nf (fun x => rfl) (fun x => rfl)) fun d hg ⟨w, e, w1, w2, xg⟩ => ?_
  subst e
  refine sb_nm (ea_cv (evs_cons (ev_var rfl) (evs_cons (ev_var rfl) evs_nil)) rfl (c24 (q + 3) s w hg h1 h2 (by omega) w2)) fun d hh ⟨e, xh⟩ => ?_
  subst e
  have lt : valN s w < s ^ 40 := by have := val_lt w2; rw [w1] at this; exact this
  have ew : Cv (callK fns (q + 7)) 25 [.int (.ofNat s), .int (.ofNat 40), .int (.ofNat (valN s w))] hh (wd w) hh := by
    have := c25 (q + 3) s 40 (valN s w) hh h1 h2 (by omega) lt
    rw [← w1, dig_val (s := s) (by omega) w2, w1] at this
    exact this
  have xx := ((xS.trans xf).trans xg).trans xh
  have sl : ∀ {o3 o4 o5 o6 o7 o8 o9 o10 o11 o13 : Option DV} (h : DH), Ev (cSl (cVar 12) oNo (oEx (cCst (.int (.ofNat 17))))) (frR s f o3 o4 o5 o6 o7 o8 o9 o10 o11 (some (wd w)) o13) h (wd (w.take 17)) h := fun {o3 o4 o5 o6 o7 o8 o9 o10 o11 o13} h => by
    have e := ev_slT (xs := w.map fun c => DV.int (.ofNat c)) (n := 17) (ev_var (i := 12) (fr := frR s f o3 o4 o5 o6 o7 o8 o9 o10 o11 (some (wd w)) o13) (h := h) rfl) (ev_cst (d := .int (.ofNat 17)))
    rw [wd_take] at e
    exact e
  refine sb_ret (ea_and (P1 := fun x h' => x = .bl true ∧ h' = hh) (ea_v (by
    have e := ev_cmp (neg := false) (ev_call (pm := [.at_ 0, .at_ 1, .at_ 2]) (evs_cons (ev_var (i := 1) (fr := frR s f o3 o4 o5 (some (.bl due)) o7 o8 (some (.ref g')) none none (some (wd w)) (some (.int (.ofNat (valN s w))))) (h := hh) (d := .int (.ofNat s)) rfl) (evs_cons ev_cst (evs_cons (ev_var (i := 13) (d := .int (.ofNat (valN s w))) rfl) evs_nil))) rfl ew) (ev_var (i := 12) (d := wd w) rfl) (eqW w w hh)
    rw [decide_eq_true rfl] at e
    exact e)) fun x h' ⟨e1, e2⟩ => .inr ⟨e1, ?_⟩)
  subst e2
  refine ea_and (P1 := fun x h3 => x = .bl true ∧ Ext h' h3) (ea_cmp (ea_cv (evs_cons (ev_var rfl) (evs_cons (ev_var rfl) (evs_cons (sl h') evs_nil))) rfl (c23 (q + 3) s w (w.take 17) h' h1 h2 (by omega) w2 (by rw [List.length_take]; omega) (wok_take w2 17))) fun d h3 ⟨e3, x3⟩ => ea_ev (sl h3) ?_) fun x h3 ⟨e1, x3⟩ => .inr ⟨e1, ?_⟩
  · subst e3
    exact ⟨true, by rw [comm_self, eqW, decide_eq_true rfl], rfl, x3⟩
  · refine ea_cmp (ea_cv (evs_cons (ev_var rfl) (evs_cons (ev_var rfl) (evs_cons (ev_var rfl) evs_nil))) rfl (c20 (q + 3) s w w h3 h1 h2 (by omega) w2 (by omega) w2)) fun d h4 ⟨e4, x4⟩ => ea_ev ev_cst ?_
    subst e4
    have : beg w w = true := by unfold beg; rw [List.take_of_length_le (Nat.le_refl _), decide_eq_true rfl]
    rw [this]
    exact ⟨true, rfl, rfl, (xx.trans x3).trans x4⟩
theorem right_ok : callK fns 20 41 [.ref 0] h0 noX okPot = true := by
  rw [call_run (fns := fns) (q := 19) (j := 41) (np := 1) (more := 13) (bd := b__law_right) rfl rfl]
  refine sa_seq (s := q__law_right (callK fns 19)) (r := r__law_right (callK fns 19)) (R := fun fr h => h = h0 ∧ ∃ z, z < 3 ∧ fr = fr1 (2 + z)) (sa_asg (P := fun d h => h = h0 ∧ ∃ z, z < 3 ∧ d = .int (.ofNat (2 + z))) (ea_bin (ea_v ev_cst) fun x h p => ?_) fun d h1 p => ?_) fun fr h p => ?_
  · obtain ⟨rfl, rfl⟩ := p
    exact ea_imp (ea_draw (q := 18) (jd := 28) rfl rfl rfl ev_cst (by decide) (by decide)) fun d h6 ⟨e1, f, e2, hf⟩ => by subst e1 e2; exact ⟨_, _, rfl, rfl, f, hf, rfl⟩
  · obtain ⟨rfl, f, hf, rfl⟩ := p
    exact ⟨_, _, go_nm, rfl, f, hf, rfl⟩
  · obtain ⟨rfl, z, hz, rfl⟩ := p
    refine r_ok 12 h0 (by omega) (by omega) rfl (by decide) _ _ _ _ _ (fun _ _ f => f.elim) fun d h' ⟨e, x⟩ => ?_
    subst e
    show cnd true (obP false (h'.get 0) true) false = true
    rw [x.get (by decide) (show h0.get 0 = some .pot from rfl)]; rfl
theorem law_ev : ∀ n, n < 64 → runFn (callL 20) (.body 1 [] 1 b_law) [.cl (.own n)] ⟨0, .e⟩ noX isT = true := upTo_all.mp (by decide +kernel : upTo 64 (fun n => runFn (callL 20) (.body 1 [] 1 b_law) [.cl (.own n)] ⟨0, .e⟩ noX isT) = true)
section
variable {P : Program} {w : World} {K : PySem.W.Frag} {mg : Str → Option Value} {base : Heap}
theorem law_ok (Y : Hy K mg) : DOk P w K mg base 29 (gvOfX K w []) (fun _ ds dh kx kk => runFn (callL 20) (.body 1 [] 1 b_law) ds dh kx kk) 42 d_law ["script"] :=
  ok_law (fun _ _ _ _ h => h) Y ⟨rfl, rfl, rfl⟩ (allL (all0 (r := 8) (G := gvOfX K w []) (w := w) (P := P) (base := base) Y ⟨rfl, rfl, rfl⟩ 20) right_ok)
end
end L12

set_option Elab.async false
set_option linter.all false
set_option maxRecDepth 100000
set_option maxHeartbeats 0
namespace L12
open PySem PySem.Spec PyProof.Rows L2 Dz
def fn : List He.DefD := [d_is_integer, d_is_count, d_is_list, d_want_many, d_want_at_most, d_is_size_value, d_want_size, d_is_word_value, d_want_word, d_are_words_value, d_want_words, d_begins, d_two_clash, d_split_of, d_common_of, d_times, d_first_clash, d_number_of, d_word_by, d_is_word, d_does_begin, d_are_apart, d_split, d_common_beginning, d_word_number, d_word_at, d_all_words, d__law_pot, d__law_draw, d__law_pick, d__law_mixed, d__law_word, d__law_begins, d__law_clash, d__law_full, d__law_cut, d__law_all, d__law_least, d__law_common, d__law_two_right, d__law_numbers_right, d__law_right, d_law]
def fa : List He.Fa := [.glo "is_integer", .glo "is_count", .glo "is_list", .glo "want_many", .glo "want_at_most", .glo "is_size_value", .glo "want_size", .glo "is_word_value", .glo "want_word", .glo "are_words_value", .glo "want_words", .glo "begins", .glo "two_clash", .glo "split_of", .glo "common_of", .glo "times", .glo "first_clash", .glo "number_of", .glo "word_by", .glo "is_word", .glo "does_begin", .glo "are_apart", .glo "split", .glo "common_beginning", .glo "word_number", .glo "word_at", .glo "all_words", .glo "_law_pot", .glo "_law_draw", .glo "_law_pick", .glo "_law_mixed", .glo "_law_word", .glo "_law_begins", .glo "_law_clash", .glo "_law_full", .glo "_law_cut", .glo "_law_all", .glo "_law_least", .glo "_law_common", .glo "_law_two_right", .glo "_law_numbers_right", .glo "_law_right", .glo "law", .free "abs", .free "all", .free "any", .free "bool", .free "divmod", .free "enumerate", .free "int", .free "isinstance", .free "len", .free "list", .free "max", .free "min", .free "range", .free "repr", .free "sorted", .free "tuple", .free "zip", .int "LEAST_SIZE" 2, .int "MOST_LETTERS" 40, .int "MOST_LISTED" 400, .int "MOST_SIZE" 4, .int "MOST_WORDS" 128]
def ex (K : PySem.W.Frag) : Bool := true
theorem hy {w : World} {h : Heap} {K : PySem.W.Frag} {mg : Str → Option Value} (X : K.In h) (N : h.Ns mainGlobals mg) (c : He.SaysX fa fn [] [] ex w h K) : Hy K mg := by
  have e := c.more
  exact {
    F_is_integer := c.t.d.def_ 0 (d := d_is_integer) rfl
    m_is_integer := He.glo_ok X N (c.t.d.fact 0 (f := .glo "is_integer") rfl)
    F_is_count := c.t.d.def_ 1 (d := d_is_count) rfl
    m_is_count := He.glo_ok X N (c.t.d.fact 1 (f := .glo "is_count") rfl)
    F_is_list := c.t.d.def_ 2 (d := d_is_list) rfl
    m_is_list := He.glo_ok X N (c.t.d.fact 2 (f := .glo "is_list") rfl)
    F_want_many := c.t.d.def_ 3 (d := d_want_many) rfl
    m_want_many := He.glo_ok X N (c.t.d.fact 3 (f := .glo "want_many") rfl)
    F_want_at_most := c.t.d.def_ 4 (d := d_want_at_most) rfl
    m_want_at_most := He.glo_ok X N (c.t.d.fact 4 (f := .glo "want_at_most") rfl)
    F_is_size_value := c.t.d.def_ 5 (d := d_is_size_value) rfl
    m_is_size_value := He.glo_ok X N (c.t.d.fact 5 (f := .glo "is_size_value") rfl)
    F_want_size := c.t.d.def_ 6 (d := d_want_size) rfl
    m_want_size := He.glo_ok X N (c.t.d.fact 6 (f := .glo "want_size") rfl)
    F_is_word_value := c.t.d.def_ 7 (d := d_is_word_value) rfl
    m_is_word_value := He.glo_ok X N (c.t.d.fact 7 (f := .glo "is_word_value") rfl)
    F_want_word := c.t.d.def_ 8 (d := d_want_word) rfl
    m_want_word := He.glo_ok X N (c.t.d.fact 8 (f := .glo "want_word") rfl)
    F_are_words_value := c.t.d.def_ 9 (d := d_are_words_value) rfl
    m_are_words_value := He.glo_ok X N (c.t.d.fact 9 (f := .glo "are_words_value") rfl)
    F_want_words := c.t.d.def_ 10 (d := d_want_words) rfl
    m_want_words := He.glo_ok X N (c.t.d.fact 10 (f := .glo "want_words") rfl)
    F_begins := c.t.d.def_ 11 (d := d_begins) rfl
    m_begins := He.glo_ok X N (c.t.d.fact 11 (f := .glo "begins") rfl)
    F_two_clash := c.t.d.def_ 12 (d := d_two_clash) rfl
    m_two_clash := He.glo_ok X N (c.t.d.fact 12 (f := .glo "two_clash") rfl)
    F_split_of := c.t.d.def_ 13 (d := d_split_of) rfl
    m_split_of := He.glo_ok X N (c.t.d.fact 13 (f := .glo "split_of") rfl)
    F_common_of := c.t.d.def_ 14 (d := d_common_of) rfl
    m_common_of := He.glo_ok X N (c.t.d.fact 14 (f := .glo "common_of") rfl)
    F_times := c.t.d.def_ 15 (d := d_times) rfl
    m_times := He.glo_ok X N (c.t.d.fact 15 (f := .glo "times") rfl)
    F_first_clash := c.t.d.def_ 16 (d := d_first_clash) rfl
    m_first_clash := He.glo_ok X N (c.t.d.fact 16 (f := .glo "first_clash") rfl)
    F_number_of := c.t.d.def_ 17 (d := d_number_of) rfl
    m_number_of := He.glo_ok X N (c.t.d.fact 17 (f := .glo "number_of") rfl)
    F_word_by := c.t.d.def_ 18 (d := d_word_by) rfl
    m_word_by := He.glo_ok X N (c.t.d.fact 18 (f := .glo "word_by") rfl)
    F_is_word := c.t.d.def_ 19 (d := d_is_word) rfl
    m_is_word := He.glo_ok X N (c.t.d.fact 19 (f := .glo "is_word") rfl)
    F_does_begin := c.t.d.def_ 20 (d := d_does_begin) rfl
    m_does_begin := He.glo_ok X N (c.t.d.fact 20 (f := .glo "does_begin") rfl)
    F_are_apart := c.t.d.def_ 21 (d := d_are_apart) rfl
    m_are_apart := He.glo_ok X N (c.t.d.fact 21 (f := .glo "are_apart") rfl)
    F_split := c.t.d.def_ 22 (d := d_split) rfl
    m_split := He.glo_ok X N (c.t.d.fact 22 (f := .glo "split") rfl)
    F_common_beginning := c.t.d.def_ 23 (d := d_common_beginning) rfl
    m_common_beginning := He.glo_ok X N (c.t.d.fact 23 (f := .glo "common_beginning") rfl)
    F_word_number := c.t.d.def_ 24 (d := d_word_number) rfl
    m_word_number := He.glo_ok X N (c.t.d.fact 24 (f := .glo "word_number") rfl)
    F_word_at := c.t.d.def_ 25 (d := d_word_at) rfl
    m_word_at := He.glo_ok X N (c.t.d.fact 25 (f := .glo "word_at") rfl)
    F_all_words := c.t.d.def_ 26 (d := d_all_words) rfl
    m_all_words := He.glo_ok X N (c.t.d.fact 26 (f := .glo "all_words") rfl)
    F__law_pot := c.t.d.def_ 27 (d := d__law_pot) rfl
    m__law_pot := He.glo_ok X N (c.t.d.fact 27 (f := .glo "_law_pot") rfl)
    F__law_draw := c.t.d.def_ 28 (d := d__law_draw) rfl
    m__law_draw := He.glo_ok X N (c.t.d.fact 28 (f := .glo "_law_draw") rfl)
    F__law_pick := c.t.d.def_ 29 (d := d__law_pick) rfl
    m__law_pick := He.glo_ok X N (c.t.d.fact 29 (f := .glo "_law_pick") rfl)
    F__law_mixed := c.t.d.def_ 30 (d := d__law_mixed) rfl
    m__law_mixed := He.glo_ok X N (c.t.d.fact 30 (f := .glo "_law_mixed") rfl)
    F__law_word := c.t.d.def_ 31 (d := d__law_word) rfl
    m__law_word := He.glo_ok X N (c.t.d.fact 31 (f := .glo "_law_word") rfl)
    F__law_begins := c.t.d.def_ 32 (d := d__law_begins) rfl
    m__law_begins := He.glo_ok X N (c.t.d.fact 32 (f := .glo "_law_begins") rfl)
    F__law_clash := c.t.d.def_ 33 (d := d__law_clash) rfl
    m__law_clash := He.glo_ok X N (c.t.d.fact 33 (f := .glo "_law_clash") rfl)
    F__law_full := c.t.d.def_ 34 (d := d__law_full) rfl
    m__law_full := He.glo_ok X N (c.t.d.fact 34 (f := .glo "_law_full") rfl)
    F__law_cut := c.t.d.def_ 35 (d := d__law_cut) rfl
    m__law_cut := He.glo_ok X N (c.t.d.fact 35 (f := .glo "_law_cut") rfl)
    F__law_all := c.t.d.def_ 36 (d := d__law_all) rfl
    m__law_all := He.glo_ok X N (c.t.d.fact 36 (f := .glo "_law_all") rfl)
    F__law_least := c.t.d.def_ 37 (d := d__law_least) rfl
    m__law_least := He.glo_ok X N (c.t.d.fact 37 (f := .glo "_law_least") rfl)
    F__law_common := c.t.d.def_ 38 (d := d__law_common) rfl
    m__law_common := He.glo_ok X N (c.t.d.fact 38 (f := .glo "_law_common") rfl)
    F__law_two_right := c.t.d.def_ 39 (d := d__law_two_right) rfl
    m__law_two_right := He.glo_ok X N (c.t.d.fact 39 (f := .glo "_law_two_right") rfl)
    F__law_numbers_right := c.t.d.def_ 40 (d := d__law_numbers_right) rfl
    m__law_numbers_right := He.glo_ok X N (c.t.d.fact 40 (f := .glo "_law_numbers_right") rfl)
    F__law_right := c.t.d.def_ 41 (d := d__law_right) rfl
    m__law_right := He.glo_ok X N (c.t.d.fact 41 (f := .glo "_law_right") rfl)
    F_law := c.t.d.def_ 42 (d := d_law) rfl
    m_law := He.glo_ok X N (c.t.d.fact 42 (f := .glo "law") rfl)
    no_abs := He.free_ok X N (c.t.d.fact 43 (f := .free "abs") rfl)
    no_all := He.free_ok X N (c.t.d.fact 44 (f := .free "all") rfl)
    no_any := He.free_ok X N (c.t.d.fact 45 (f := .free "any") rfl)
    no_bool := He.free_ok X N (c.t.d.fact 46 (f := .free "bool") rfl)
    no_divmod := He.free_ok X N (c.t.d.fact 47 (f := .free "divmod") rfl)
    no_enumerate := He.free_ok X N (c.t.d.fact 48 (f := .free "enumerate") rfl)
    no_int := He.free_ok X N (c.t.d.fact 49 (f := .free "int") rfl)
    no_isinstance := He.free_ok X N (c.t.d.fact 50 (f := .free "isinstance") rfl)
    no_len := He.free_ok X N (c.t.d.fact 51 (f := .free "len") rfl)
    no_list := He.free_ok X N (c.t.d.fact 52 (f := .free "list") rfl)
    no_max := He.free_ok X N (c.t.d.fact 53 (f := .free "max") rfl)
    no_min := He.free_ok X N (c.t.d.fact 54 (f := .free "min") rfl)
    no_range := He.free_ok X N (c.t.d.fact 55 (f := .free "range") rfl)
    no_repr := He.free_ok X N (c.t.d.fact 56 (f := .free "repr") rfl)
    no_sorted := He.free_ok X N (c.t.d.fact 57 (f := .free "sorted") rfl)
    no_tuple := He.free_ok X N (c.t.d.fact 58 (f := .free "tuple") rfl)
    no_zip := He.free_ok X N (c.t.d.fact 59 (f := .free "zip") rfl)
    c_LEAST_SIZE := by
      obtain ⟨t, z⟩ := He.int_ok X N (c.t.d.fact 60 (f := .int "LEAST_SIZE" 2) rfl)
      exact ⟨_, z, t, rfl⟩
    c_MOST_LETTERS := by
      obtain ⟨t, z⟩ := He.int_ok X N (c.t.d.fact 61 (f := .int "MOST_LETTERS" 40) rfl)
      exact ⟨_, z, t, rfl⟩
    c_MOST_LISTED := by
      obtain ⟨t, z⟩ := He.int_ok X N (c.t.d.fact 62 (f := .int "MOST_LISTED" 400) rfl)
      exact ⟨_, z, t, rfl⟩
    c_MOST_SIZE := by
      obtain ⟨t, z⟩ := He.int_ok X N (c.t.d.fact 63 (f := .int "MOST_SIZE" 4) rfl)
      exact ⟨_, z, t, rfl⟩
    c_MOST_WORDS := by
      obtain ⟨t, z⟩ := He.int_ok X N (c.t.d.fact 64 (f := .int "MOST_WORDS" 128) rfl)
      exact ⟨_, z, t, rfl⟩
  }
def loose0 : List Str := ["SwapError", "LimitError", "InvalidSize", "InvalidWord", "InvalidWords", "InvalidMany", "InvalidPosition", "TooMany", "is_integer", "is_count", "is_list", "want_many"]
def loose1 : List Str := ["want_at_most", "LEAST_SIZE", "MOST_SIZE", "MOST_LETTERS", "MOST_WORDS", "MOST_LISTED", "is_size_value", "want_size", "is_word_value", "want_word", "are_words_value", "want_words"]
def loose2 : List Str := ["begins", "two_clash", "split_of", "common_of", "times", "first_clash", "number_of", "word_by", "is_word", "does_begin", "are_apart", "split"]
def loose3 : List Str := ["common_beginning", "word_number", "word_at", "all_words", "_law_pot", "_law_draw", "_law_pick", "_law_mixed", "_law_word", "_law_begins", "_law_clash", "_law_full"]
def loose4 : List Str := ["_law_cut", "_law_all", "_law_least", "_law_common", "_law_two_right", "_law_numbers_right", "_law_right"]
def loose : List Str := loose0 ++ loose1 ++ loose2 ++ loose3 ++ loose4
abbrev R : PySem.W.OpenRow := PySem.W.OpenLaw.row PySem.Challenge.rw_beginningswaps_k12_whole_words_by_beginn
abbrev hk : PySem.W.Hook := He.hookX 4 fa fn [] [] ex
def ob (s : PySem.W.SharedT) : He.AlX := He.obsX 4 fa fn [] [] ex (HandSHeadRun.getT s)
theorem ob_eq (s : PySem.W.SharedT) : ob s = hk.obs s.abs := He.obsX_eq (HandSHeadRun.getT_eq s)
theorem run (w : World) : HandSHeadRun.RunEq R (PySem.W.view R.prog [59]) hk ob 4000 loose w := by
  intro os
  kernel_rfl
end L12
open PySem PySem.W PySem.Calls PyProof.Rows
theorem PySem.Challenge.cw_beginningswaps_k12_whole_words_by_beginn_holds : PySem.Challenge.rw_beginningswaps_k12_whole_words_by_beginn.Holds := by
  w_on; o_law
  refine HandSHeadRun.head_any (r := OpenLaw.row PySem.Challenge.rw_beginningswaps_k12_whole_words_by_beginn) (q := view (OpenLaw.row PySem.Challenge.rw_beginningswaps_k12_whole_words_by_beginn).prog [59]) (H := L12.hk) (ob := L12.ob) (M := 4000) (loose := L12.loose) (d := HandSHeadRun.topDef (OpenLaw.row PySem.Challenge.rw_beginningswaps_k12_whole_words_by_beginn).prog 59) (kwd := []) L12.ob_eq
    (by kernel_rfl) (fun s => by kernel_rfl) L12.run (by kernel_rfl) (by kernel_rfl) (by kernel_rfl) (by rfl) (by first | assumption | decide +kernel) (by decide +kernel) ⟨rfl, rfl, rfl, rfl, rfl, by decide +kernel⟩ ?hw ?hc
  case hw => w_witness2
  case hc =>
    refine Dz.walk_ofX (l := PySem.Challenge.rw_beginningswaps_k12_whole_words_by_beginn) (k := 29) (x := "script") rfl (by kernel_rfl) ⟨rfl, by decide, by decide⟩ ?F
    intro w mg fa h Y G hmg0
    obtain ⟨K, KX, c⟩ := Y
    have hmg : mg ("law" : PySem.Str) = some (.ref fa) := by
      have e : (HandSHeadRun.topDef (OpenLaw.row PySem.Challenge.rw_beginningswaps_k12_whole_words_by_beginn).prog 59).name = ("law" : PySem.Str) := by kernel_rfl
      rw [← e]
      exact hmg0
    have hy := L12.hy KX G c
    have e := hmg.symm.trans hy.m_law
    cases e
    obtain ⟨fd, F, _⟩ := L12.law_ok (P := (PySem.Challenge.rw_beginningswaps_k12_whole_words_by_beginn).prog) (w := w) (base := h) hy
    have b := L2.FunD.bindsA (ps := ["script"]) F fun _ _ _ _ _ _ us hl => match us, hl with | [_], _ => rfl
    refine ⟨K, fd, [], Dz.gvOfX K w [], fun _ ds dh kx kk => Dz.runFn (L12.callL 20) (.body 1 [] 1 L12.b_law) ds dh kx kk, 42, KX, fun _ z => absurd z (by simp), fun _ z => absurd z (by simp), fun _ z => absurd z (by simp), fun s v => b s [v] rfl, rfl, fun _ z => absurd z (by simp [Dz.gvOfX]), L12.law_ev, fun base hK hN _ => ?_⟩
    obtain ⟨fd2, F2, O2⟩ := L12.law_ok (P := (PySem.Challenge.rw_beginningswaps_k12_whole_words_by_beginn).prog) (w := w) (base := base) hy
    have e2 : fd2 = fd := Dz.fd_same F2 F
    subst e2
    exact O2

