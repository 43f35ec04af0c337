import PyProof.Rows.All
import Wide.All
import OpenK.AllK
import Wide.FinOn
import Lean
import PySem.Challenge.RW_xw0310_01
set_option Elab.async false
set_option maxRecDepth 100000
set_option linter.unusedVariables false

namespace Mine
/-! a small interpreter: values, objects, a heap of ids; every form is a function in continuation style -/
inductive MV where
  | unb | none | bool (b : Bool) | int (i : Int) | str (l : List Nat) | own (i : Nat) | sym (i : Nat) | code | ord (i : Nat) | scr (j : Nat)
inductive MO where
  | tup (l : List MV) | lst (l : List MV) | inst (c : Nat) (fs : List (Nat × MV)) | dct (l : List (List Nat × MV))
inductive T where
  | nil | node (v : MO) (l r : T)
noncomputable def T.get (t : T) : Nat → Option MO :=
  T.rec (fun _ => Option.none) (fun v _ _ ihl ihr i => Bool.rec (Bool.rec (ihr (Nat.sub (Nat.div i 2) 1)) (ihl (Nat.div i 2)) (Nat.beq (Nat.mod i 2) 1)) (some v) (Nat.beq i 0)) t
noncomputable def T.set (t : T) : Nat → MO → T :=
  T.rec (fun i x => Bool.rec T.nil (T.node x .nil .nil) (Nat.beq i 0))
    (fun v l r ihl ihr i x => Bool.rec (Bool.rec (T.node v l (ihr (Nat.sub (Nat.div i 2) 1) x)) (T.node v (ihl (Nat.div i 2) x) r) (Nat.beq (Nat.mod i 2) 1)) (T.node x l r) (Nat.beq i 0)) t
structure St where
  h : T
  n : Nat
  m : Nat
  fs : List (Nat × Nat × Nat)
abbrev L := List MV
abbrev K := MV → St → Bool
abbrev X := L → St → K → Bool
abbrev Xs := L → St → (L → St → Bool) → Bool
abbrev Ts := L → St → (Bool → St → Bool) → Bool
abbrev S := L → St → (L → St → Bool) → (MV → St → Bool) → (L → St → Bool) → (L → St → Bool) → Bool

noncomputable def lget (l : L) : Nat → MV := List.rec (fun _ => MV.unb) (fun a _ ih n => Nat.rec a (fun m _ => ih m) n) l
noncomputable def lset (l : L) : Nat → MV → L :=
  List.rec (fun n v => Nat.rec (motive := fun _ => L) [v] (fun _ r => MV.unb :: r) n) (fun a l ih n v => Nat.rec (v :: l) (fun m _ => a :: ih m v) n) l
noncomputable def strB (a : List Nat) : List Nat → Bool :=
  List.rec (fun b => List.rec true (fun _ _ _ => false) b) (fun x _ ih b => List.rec false (fun y b' _ => Bool.rec false (ih b') (Nat.beq x y)) b) a
noncomputable def sliceN (l : List Nat) (a b : Nat) : List Nat := (l.drop a).take (b - a)
noncomputable def ltB (a b : Int) : Bool := Int.rec (fun m => Int.rec (fun n => Nat.blt m n) (fun _ => false) b) (fun m => Int.rec (fun _ => true) (fun n => Nat.blt n m) b) a
noncomputable def eqB (a b : Int) : Bool := Int.rec (fun m => Int.rec (fun n => Nat.beq m n) (fun _ => false) b) (fun m => Int.rec (fun _ => false) (fun n => Nat.beq m n) b) a
noncomputable def addI (a b : Int) : Int := Int.rec (fun m => Int.rec (fun n => Int.ofNat (Nat.add m n)) (fun _ => Int.add a b) b) (fun _ => Int.add a b) a
noncomputable def subI (a b : Int) : Int := Int.rec (fun m => Int.rec (fun n => Bool.rec (Int.sub a b) (Int.ofNat (Nat.sub m n)) (Nat.ble n m)) (fun _ => Int.sub a b) b) (fun _ => Int.sub a b) a
noncomputable def inStrs (a : List Nat) (l : List (List Nat)) : Bool := List.rec false (fun x _ ih => Bool.rec ih true (strB a x)) l
noncomputable def fget (fs : List (Nat × MV)) (a : Nat) : MV := List.rec MV.unb (fun p _ ih => Bool.rec ih p.2 (Nat.beq p.1 a)) fs
noncomputable def fput (fs : List (Nat × MV)) (a : Nat) (v : MV) : List (Nat × MV) := List.rec [(a, v)] (fun p r ih => Bool.rec (p :: ih) ((a, v) :: r) (Nat.beq p.1 a)) fs
noncomputable def dput (fs : List (List Nat × MV)) (a : List Nat) (v : MV) : List (List Nat × MV) := List.rec [(a, v)] (fun p r ih => Bool.rec (p :: ih) ((a, v) :: r) (strB p.1 a)) fs
/-- the compiled pattern: a tree of rows -/
inductive O1 where | nil | node (v : L) (l r : O1)
noncomputable def O1.get (t : O1) : Nat → Option L :=
  O1.rec (fun _ => Option.none) (fun v _ _ ihl ihr i => Bool.rec (Bool.rec (ihr (Nat.sub (Nat.div i 2) 1)) (ihl (Nat.div i 2)) (Nat.beq (Nat.mod i 2) 1)) (some v) (Nat.beq i 0)) t

-- looks at a value, an object
noncomputable def ifOwn (v : MV) (f : Nat → Bool) : Bool := MV.rec false false (fun _ => false) (fun _ => false) (fun _ => false) f (fun _ => false) false (fun _ => false) (fun _ => false) v
noncomputable def ifInt (v : MV) (f : Int → Bool) : Bool := MV.rec false false (fun _ => false) f (fun _ => false) (fun _ => false) (fun _ => false) false (fun _ => false) (fun _ => false) v
noncomputable def ifStr (v : MV) (f : List Nat → Bool) : Bool := MV.rec false false (fun _ => false) (fun _ => false) f (fun _ => false) (fun _ => false) false (fun _ => false) (fun _ => false) v
noncomputable def ifBool (v : MV) (f : Bool → Bool) : Bool := MV.rec false false f (fun _ => false) (fun _ => false) (fun _ => false) (fun _ => false) false (fun _ => false) (fun _ => false) v
noncomputable def okK (v : MV) (k : MV → Bool) : Bool := MV.rec false (k .none) (fun b => k (.bool b)) (fun i => k (.int i)) (fun l => k (.str l)) (fun i => k (.own i)) (fun i => k (.sym i)) (k .code) (fun i => k (.ord i)) (fun i => k (.scr i)) v
noncomputable def natOr (i : Int) (f : Nat → Bool) : Bool := Int.rec f (fun _ => false) i
noncomputable def withObj (st : St) (i : Nat) (k : MO → Bool) : Bool := Option.rec false k (st.h.get i)
noncomputable def lstOr (o : MO) (f : L → Bool) : Bool := MO.rec (fun _ => false) f (fun _ _ => false) (fun _ => false) o
noncomputable def tupOr (o : MO) (f : L → Bool) : Bool := MO.rec f (fun _ => false) (fun _ _ => false) (fun _ => false) o
noncomputable def insOr (o : MO) (f : Nat → List (Nat × MV) → Bool) : Bool := MO.rec (fun _ => false) (fun _ => false) f (fun _ => false) o
noncomputable def dctOr (o : MO) (f : List (List Nat × MV) → Bool) : Bool := MO.rec (fun _ => false) (fun _ => false) (fun _ _ => false) f o
noncomputable def onLst (x : MV) (st : St) (f : Nat → L → Bool) : Bool := ifOwn x fun i => withObj st i fun o => lstOr o (f i)
noncomputable def upd (st : St) (i : Nat) (o : MO) : St := St.rec (fun h n m fs => ⟨h.set i o, n, m, fs⟩) st
noncomputable def alloc (o : MO) (st : St) (k : K) : Bool := St.rec (fun h n m fs => Option.rec false (fun _ => k (.own n) ⟨h.set n o, Nat.succ n, m, fs⟩) ((h.set n o).get n)) st
noncomputable def dead : L → St → Bool := fun _ _ => false
/-- no more than a thousand -/
noncomputable def few {α : Type} (l : List α) (b : Bool) : Bool := Bool.rec false b (Nat.ble l.length 1000)

-- expressions
noncomputable def xBad : X := fun _ _ _ => false
noncomputable def xLoc (i : Nat) : X := fun loc st k => okK (lget loc i) fun v => k v st
noncomputable def xLit (v : MV) : X := fun _ st k => k v st
noncomputable def catK (a b : Nat) (st : St) (k : K) : Bool := withObj st a fun o => lstOr o fun l => withObj st b fun o' => lstOr o' fun l' => few (l ++ l') (alloc (.lst (l ++ l')) st k)
noncomputable def addK (a b : MV) (st : St) (k : K) : Bool := MV.rec false false (fun _ => false) (fun x => ifInt b fun y => k (.int (addI x y)) st) (fun x => ifStr b fun y => few (x ++ y) (k (.str (x ++ y)) st)) (fun i => ifOwn b fun j => catK i j st k) (fun _ => false) false (fun _ => false) (fun _ => false) a
noncomputable def xAdd (a b : X) : X := fun loc st k => a loc st fun x st => b loc st fun y st => addK x y st k
noncomputable def xSub (a b : X) : X := fun loc st k => a loc st fun x st => b loc st fun y st => ifInt x fun x => ifInt y fun y => k (.int (subI x y)) st
noncomputable def xMul (a b : X) : X := fun loc st k => a loc st fun x st => b loc st fun y st => ifStr x fun x => ifInt y fun y => natOr y fun y => Bool.rec false (few (List.replicate y x).flatten (k (.str (List.replicate y x).flatten) st)) (Nat.ble y 1000)
noncomputable def xPow (a b : X) : X := fun loc st k => a loc st fun x st => b loc st fun y st => ifInt x fun x => natOr x fun x => ifInt y fun y => natOr y fun y => Bool.rec false (Bool.rec false (k (.int (.ofNat (Nat.pow x y))) st) (Nat.ble y 1000)) (Nat.beq x 2)
noncomputable def newSym (st : St) (k : K) : Bool := St.rec (fun h n m fs => k (.sym m) ⟨h, n, Nat.succ m, fs⟩) st
noncomputable def fact (st : St) (i n r : Nat) : St := St.rec (fun h nn m fs => ⟨h, nn, m, (i, n, r) :: fs⟩) st
noncomputable def findF (fs : List (Nat × Nat × Nat)) (i n : Nat) : Option Nat := List.rec Option.none (fun p _ ih => Bool.rec ih (Bool.rec ih (some p.2.2) (Nat.beq p.2.1 n)) (Nat.beq p.1 i)) fs
noncomputable def allBelow (n : Nat) (f : Nat → Bool) : Bool := Nat.rec true (fun m ih => Bool.rec false ih (f m)) n
noncomputable def modK (a : MV) (n : Nat) (st : St) (k : K) : Bool :=
  MV.rec false false (fun _ => false) (fun x => natOr x fun x => k (.int (.ofNat (Nat.mod x n))) st) (fun _ => false) (fun _ => false)
    (fun i => Option.rec (allBelow n fun r => k (.int (.ofNat r)) (fact st i n r)) (fun r => k (.int (.ofNat r)) st) (findF st.fs i n)) false (fun _ => false) (fun _ => false) a
noncomputable def divK (a : MV) (n : Nat) (st : St) (k : K) : Bool :=
  MV.rec false false (fun _ => false) (fun x => natOr x fun x => k (.int (.ofNat (Nat.div x n))) st) (fun _ => false) (fun _ => false) (fun _ => newSym st k) false (fun _ => false) (fun _ => false) a
noncomputable def posOr (y : MV) (f : Nat → Bool) : Bool := ifInt y fun y => natOr y fun y => Nat.rec false (fun m _ => f (Nat.succ m)) y
noncomputable def xMod (a b : X) : X := fun loc st k => a loc st fun x st => b loc st fun y st => posOr y fun n => modK x n st k
noncomputable def xDiv (a b : X) : X := fun loc st k => a loc st fun x st => b loc st fun y st => posOr y fun n => Bool.rec false (divK x n st k) (Nat.ble n 1000000)
noncomputable def absK (x : MV) (st : St) (k : K) : Bool := MV.rec false false (fun _ => false) (fun x => natOr x fun x => k (.int (.ofNat x)) st) (fun _ => false) (fun _ => false) (fun _ => newSym st k) false (fun _ => false) (fun _ => false) x
noncomputable def xAbs (a : X) : X := fun loc st k => a loc st fun x st => absK x st k
noncomputable def intK (x : MV) (k : MV → Bool) : Bool := MV.rec false false (fun _ => false) (fun x => k (.int x)) (fun _ => false) (fun _ => false) (fun i => k (.sym i)) false (fun _ => false) (fun _ => false) x
noncomputable def xInt (a : X) : X := fun loc st k => a loc st fun x st => intK x fun v => k v st
noncomputable def xIte (c : Ts) (a b : X) : X := fun loc st k => c loc st fun t st => Bool.rec (b loc st k) (a loc st k) t
noncomputable def xBool (t : Ts) : X := fun loc st k => t loc st fun c st => k (.bool c) st
noncomputable def xAnd (a b : X) : X := fun loc st k => a loc st fun x st => ifBool x fun c => Bool.rec (k (.bool false) st) (b loc st k) c
noncomputable def xOr (a b : X) : X := fun loc st k => a loc st fun x st => ifBool x fun c => Bool.rec (b loc st k) (k (.bool true) st) c
noncomputable def xLst (es : Xs) : X := fun loc st k => es loc st fun vs st => alloc (.lst vs) st k
noncomputable def xTup (es : Xs) : X := fun loc st k => es loc st fun vs st => alloc (.tup vs) st k
noncomputable def xDct : X := fun _ st k => alloc (.dct []) st k
noncomputable def xAtt (o : X) (a : Nat) : X := fun loc st k => o loc st fun x st => ifOwn x fun i => withObj st i fun o => insOr o fun _ fs => okK (fget fs a) fun v => k v st
noncomputable def idxK (code : O1) (o : MV) (j : Nat) (st : St) (k : MV → Bool) : Bool :=
  MV.rec false false (fun _ => false) (fun _ => false) (fun l => List.rec false (fun c _ _ => k (.str [c])) (l.drop j))
    (fun i => withObj st i fun o => MO.rec (fun l => okK (lget l j) k) (fun l => okK (lget l j) k) (fun _ _ => false) (fun _ => false) o) (fun _ => false)
    (Option.rec false (fun _ => k (.ord j)) (code.get j)) (fun p => Option.rec false (fun l => Bool.rec false (okK (lget l j) k) (Nat.ble j 1000)) (code.get p)) (fun m => Bool.rec false (k (.sym j)) (Nat.blt j m)) o
noncomputable def xIdx (code : O1) (o i : X) : X := fun loc st k => o loc st fun x st => i loc st fun y st => ifInt y fun j => natOr j fun j => idxK code x j st fun v => k v st
/-- a list's last item -/
noncomputable def xLast (o : X) : X := fun loc st k => o loc st fun x st => onLst x st fun _ l => List.rec false (fun v _ _ => okK v fun v => k v st) l.reverse
noncomputable def natV (y : MV) (f : Nat → Bool) : Bool := ifInt y fun y => natOr y f
noncomputable def xSlc (o a b : X) : X := fun loc st k => o loc st fun x st => a loc st fun y st => b loc st fun z st => ifStr x fun l => natV y fun y => natV z fun z => k (.str (sliceN l y z)) st
noncomputable def symsTo (j : Nat) : L := Nat.rec [] (fun m ih => ih ++ [MV.sym m]) j
/-- up to a place: of a str, a list, the script (to 4) -/
noncomputable def hiK (x : MV) (z : Nat) (st : St) (k : K) : Bool :=
  MV.rec false false (fun _ => false) (fun _ => false) (fun l => k (.str (l.take z)) st) (fun i => withObj st i fun o => lstOr o fun l => alloc (.lst (l.take z)) st k) (fun _ => false) false (fun _ => false)
    (fun j => Bool.rec false (alloc (.lst (symsTo j)) st k) (Nat.beq z 4)) x
noncomputable def xHi (o b : X) : X := fun loc st k => o loc st fun x st => b loc st fun z st => natV z fun z => hiK x z st k
noncomputable def loK (x : MV) (z : Nat) (st : St) (k : K) : Bool :=
  MV.rec false false (fun _ => false) (fun _ => false) (fun l => k (.str (l.drop z)) st) (fun i => withObj st i fun o => lstOr o fun l => alloc (.lst (l.drop z)) st k) (fun _ => false) false (fun _ => false) (fun _ => false) x
noncomputable def xLo (o b : X) : X := fun loc st k => o loc st fun x st => b loc st fun z st => natV z fun z => loK x z st k
/-- backwards; backwards from the last but one -/
noncomputable def xBack (o : X) : X := fun loc st k => o loc st fun x st => onLst x st fun _ l => alloc (.lst l.reverse) st k
noncomputable def xBack2 (o : X) : X := fun loc st k => o loc st fun x st => onLst x st fun _ l => alloc (.lst (l.reverse.drop 1)) st k
noncomputable def yNil : Xs := fun _ st k => k [] st
noncomputable def yCons (e : X) (es : Xs) : Xs := fun loc st k => e loc st fun v st => es loc st fun vs st => k (v :: vs) st
noncomputable def bodyK (b : S) (loc : L) (st : St) (k : K) : Bool := b loc st (fun _ st => k .none st) k dead dead
noncomputable def xCall (b : S) (es : Xs) : X := fun loc st k => es loc st fun vs st => bodyK b vs st k
noncomputable def xMth (c : Nat) (b : S) (o : X) (es : Xs) : X := fun loc st k => o loc st fun x st => ifOwn x fun i => withObj st i fun ob => insOr ob fun c' _ => Bool.rec false (es loc st fun vs st => bodyK b (.own i :: vs) st k) (Nat.beq c c')
noncomputable def isNone (a : MV) (k : Bool → Bool) : Bool := MV.rec false (k true) (fun _ => k false) (fun _ => k false) (fun _ => k false) (fun _ => k false) (fun _ => k false) (k false) (fun _ => k false) (fun _ => k false) a
noncomputable def xNew (c : Nat) (b : S) (es : Xs) : X := fun loc st k => es loc st fun vs st => alloc (.inst c []) st fun o st => bodyK b (o :: vs) st fun r st => isNone r fun b => Bool.rec false (k o st) b
noncomputable def lenK (o : MV) (st : St) (k : Nat → Bool) : Bool :=
  MV.rec false false (fun _ => false) (fun _ => false) (fun l => k l.length) (fun i => withObj st i fun o => MO.rec (fun l => k l.length) (fun l => k l.length) (fun _ _ => false) (fun _ => false) o) (fun _ => false) false (fun _ => false) (fun _ => false) o
noncomputable def xLen (a : X) : X := fun loc st k => a loc st fun x st => lenK x st fun n => k (.int (.ofNat n)) st
/-- isinstance: 0 a tuple, 1 a str -/
noncomputable def isiK (ty : Nat) (o : MV) (st : St) (k : Bool → Bool) : Bool :=
  MV.rec false (k false) (fun _ => false) (fun _ => k false) (fun _ => k (Nat.beq ty 1)) (fun i => withObj st i fun o => tupOr o fun _ => k (Nat.beq ty 0)) (fun _ => false) false (fun _ => false) (fun _ => false) o
noncomputable def xIsi (t : Nat) (a : X) : X := fun loc st k => a loc st fun x st => isiK t x st fun c => k (.bool c) st
noncomputable def xPop (o : X) : X := fun loc st k => o loc st fun x st => onLst x st fun i l => List.rec false (fun v t _ => okK v fun v => k v (upd st i (.lst t.reverse))) l.reverse
noncomputable def xApp (o x : X) : X := fun loc st k => o loc st fun o st => onLst o st fun _ _ => x loc st fun y st => onLst o st fun i l => few (l ++ [y]) (k .none (upd st i (.lst (l ++ [y]))))
noncomputable def xExt (o x : X) : X := fun loc st k => o loc st fun o st => onLst o st fun _ _ => x loc st fun y st => onLst o st fun i l => onLst y st fun _ l' => few (l ++ l') (k .none (upd st i (.lst (l ++ l'))))
noncomputable def xRev (o : X) : X := fun loc st k => o loc st fun x st => onLst x st fun i l => k .none (upd st i (.lst l.reverse))
noncomputable def joinK (l : L) (acc : List Nat) (k : List Nat → Bool) : Bool := List.rec (fun acc => k acc) (fun v _ ih acc => ifStr v fun s => ih (acc ++ s)) l acc
noncomputable def xJoin (o : X) : X := fun loc st k => o loc st fun x st => onLst x st fun _ l => joinK l [] fun s => few s (k (.str s) st)
noncomputable def countN (c : Nat) (l : List Nat) : Nat := List.rec 0 (fun x _ ih => Bool.rec ih (Nat.succ ih) (Nat.beq x c)) l
noncomputable def xCount (c : Nat) (o : X) : X := fun loc st k => o loc st fun x st => ifStr x fun l => k (.int (.ofNat (countN c l))) st
/-- a list comprehension: its own locals are the item and what it catches -/
noncomputable def pick (loc : L) (fv : List Nat) : L := List.rec [] (fun i _ ih => lget loc i :: ih) fv
noncomputable def addTo (st : St) (a : Nat) (v : MV) (k : St → Bool) : Bool := withObj st a fun o => lstOr o fun l => few (l ++ [v]) (k (upd st a (.lst (l ++ [v]))))
noncomputable def compL (x a : Nat) (t : Ts) (e : X) (n : Nat) : Nat → L → St → (St → Bool) → Bool :=
  Nat.rec (fun _ _ _ _ => false) (fun _ ih i cl st k => withObj st x fun o => lstOr o fun l => Bool.rec (k st)
    (okK (lget l i) fun y => t (y :: cl) st fun c st => Bool.rec (ih (Nat.succ i) cl st k) (e (y :: cl) st fun v st => addTo st a v fun st => ih (Nat.succ i) cl st k) c) (Nat.blt i l.length)) n
noncomputable def tYes : Ts := fun _ st k => k true st
noncomputable def xComp (n : Nat) (src : X) (fv : List Nat) (t : Ts) (e : X) : X := fun loc st k => src loc st fun x st => ifOwn x fun x => alloc (.lst []) st fun a st => ifOwn a fun a => compL x a t e n 0 (pick loc fv) st fun st => k (.own a) st
noncomputable def compR (a : Nat) (t : Ts) (e : X) (n : Nat) : Nat → Nat → L → St → (St → Bool) → Bool :=
  Nat.rec (fun _ _ _ _ _ => false) (fun _ ih i m cl st k => Bool.rec (k st)
    (t (.int (.ofNat i) :: cl) st fun c st => Bool.rec (ih (Nat.succ i) m cl st k) (e (.int (.ofNat i) :: cl) st fun v st => addTo st a v fun st => ih (Nat.succ i) m cl st k) c) (Nat.blt i m)) n
noncomputable def xCompR (n : Nat) (src : X) (fv : List Nat) (t : Ts) (e : X) : X := fun loc st k => src loc st fun x st => natV x fun m => Bool.rec false (alloc (.lst []) st fun a st => ifOwn a fun a => compR a t e n 0 m (pick loc fv) st fun st => k (.own a) st) (Nat.ble m 1000)

-- tests
noncomputable def nilL (o : MO) (f : Bool → Bool) : Bool := lstOr o fun l => List.rec (f true) (fun _ _ _ => f false) l
noncomputable def eqK (a b : MV) (st : St) (k : Bool → Bool) : Bool :=
  MV.rec false false (fun x => ifBool b fun y => k (Bool.rec (!y) y x)) (fun x => ifInt b fun y => k (eqB x y)) (fun x => ifStr b fun y => k (strB x y))
    (fun i => ifOwn b fun j => withObj st j fun o' => nilL o' fun e' => Bool.rec false (withObj st i fun o => nilL o fun e => k e) e') (fun _ => false) false (fun _ => false) (fun _ => false) a
noncomputable def tEq (a b : X) : Ts := fun loc st k => a loc st fun x st => b loc st fun y st => eqK x y st fun c => k c st
noncomputable def tNe (a b : X) : Ts := fun loc st k => a loc st fun x st => b loc st fun y st => eqK x y st fun c => k (!c) st
noncomputable def tGt (a b : X) : Ts := fun loc st k => a loc st fun x st => b loc st fun y st => ifInt x fun x => ifInt y fun y => k (ltB y x) st
noncomputable def tIsN (a : X) : Ts := fun loc st k => a loc st fun x st => isNone x fun c => k c st
noncomputable def tNotN (a : X) : Ts := fun loc st k => a loc st fun x st => isNone x fun c => k (!c) st
noncomputable def tInT (a : X) (l : List (List Nat)) : Ts := fun loc st k => a loc st fun x st => ifStr x fun s => k (inStrs s l) st
/-- a str in an empty list -/
noncomputable def tInL (a b : X) : Ts := fun loc st k => a loc st fun x st => b loc st fun y st => ifStr x fun _ => onLst y st fun _ l => List.rec (k false st) (fun _ _ _ => false) l
/-- one sign not in a str -/
noncomputable def hasN (c : Nat) (l : List Nat) : Bool := List.rec false (fun x _ ih => Bool.rec ih true (Nat.beq x c)) l
noncomputable def tNotIn (c : Nat) (b : X) : Ts := fun loc st k => b loc st fun y st => ifStr y fun l => k (!hasN c l) st
noncomputable def tNot (t : Ts) : Ts := fun loc st k => t loc st fun c st => k (!c) st
noncomputable def tAnd (a b : Ts) : Ts := fun loc st k => a loc st fun c st => Bool.rec (k false st) (b loc st k) c
noncomputable def tOr (a b : Ts) : Ts := fun loc st k => a loc st fun c st => Bool.rec (b loc st k) (k true st) c
noncomputable def tVal (a : X) : Ts := fun loc st k => a loc st fun x st => ifBool x fun c => k c st

-- statements, each with what follows
noncomputable def sNil : S := fun loc st kn _ _ _ => kn loc st
noncomputable def sBad : S := fun _ _ _ _ _ _ => false
noncomputable def sAsg (i : Nat) (e : X) (rest : S) : S := fun loc st kn kr kb kc => e loc st fun v st => rest (lset loc i v) st kn kr kb kc
noncomputable def unp (is : List Nat) : L → L → (L → Bool) → Bool :=
  List.rec (fun l loc k => List.rec (k loc) (fun _ _ _ => false) l) (fun i _ ih l loc k => List.rec false (fun v l _ => okK v fun v => ih l (lset loc i v) k) l) is
noncomputable def bindT (is : List Nat) (v : MV) (loc : L) (st : St) (k : L → Bool) : Bool := ifOwn v fun x => withObj st x fun o => tupOr o fun l => unp is l loc k
/-- stored from the last -/
noncomputable def bindR (is : List Nat) (v : MV) (loc : L) (st : St) (k : L → Bool) : Bool := ifOwn v fun x => withObj st x fun o => tupOr o fun l => unp is l.reverse loc k
noncomputable def sAsgR (is : List Nat) (e : X) (rest : S) : S := fun loc st kn kr kb kc => e loc st fun v st => bindR is v loc st fun loc => rest loc st kn kr kb kc
noncomputable def sAsgT (is : List Nat) (e : X) (rest : S) : S := fun loc st kn kr kb kc => e loc st fun v st => bindT is v loc st fun loc => rest loc st kn kr kb kc
noncomputable def putA (o : MV) (a : Nat) (v : MV) (st : St) (k : St → Bool) : Bool := ifOwn o fun i => withObj st i fun o => insOr o fun c fs => few (fput fs a v) (k (upd st i (.inst c (fput fs a v))))
noncomputable def sAsgA (o : X) (a : Nat) (e : X) (rest : S) : S := fun loc st kn kr kb kc => e loc st fun v st => o loc st fun x st => putA x a v st fun st => rest loc st kn kr kb kc
noncomputable def putI (o i v : MV) (st : St) (k : St → Bool) : Bool := ifOwn o fun x => withObj st x fun o =>
  MO.rec (fun _ => false) (fun l => natV i fun j => Bool.rec false (k (upd st x (.lst (lset l j v)))) (Nat.blt j l.length)) (fun _ _ => false) (fun fs => ifStr i fun s => few (dput fs s v) (k (upd st x (.dct (dput fs s v))))) o
noncomputable def sAsgI (o i e : X) (rest : S) : S := fun loc st kn kr kb kc => e loc st fun v st => o loc st fun x st => i loc st fun y st => putI x y v st fun st => rest loc st kn kr kb kc
/-- x.a += a written int -/
noncomputable def sAugA (o : X) (a : Nat) (c : Nat) (rest : S) : S := fun loc st kn kr kb kc => o loc st fun x st => ifOwn x fun i => withObj st i fun o => insOr o fun cl fs => ifInt (fget fs a) fun v => few (fput fs a (.int (addI v (.ofNat c)))) (rest loc (upd st i (.inst cl (fput fs a (.int (addI v (.ofNat c)))))) kn kr kb kc)
noncomputable def sEx (e : X) (rest : S) : S := fun loc st kn kr kb kc => e loc st fun _ st => rest loc st kn kr kb kc
noncomputable def sIte (t : Ts) (a b rest : S) : S := fun loc st kn kr kb kc => t loc st fun c st => Bool.rec (b loc st (fun loc st => rest loc st kn kr kb kc) kr kb kc) (a loc st (fun loc st => rest loc st kn kr kb kc) kr kb kc) c
noncomputable def whl (t : Ts) (b : S) (n : Nat) : L → St → (L → St → Bool) → (MV → St → Bool) → Bool :=
  Nat.rec (fun _ _ _ _ => false) (fun _ ih loc st kn kr => t loc st fun c st => Bool.rec (kn loc st) (b loc st (fun loc st => ih loc st kn kr) kr kn (fun loc st => ih loc st kn kr)) c) n
noncomputable def sWhl (n : Nat) (t : Ts) (b rest : S) : S := fun loc st kn kr kb kc => whl t b n loc st (fun loc st => rest loc st kn kr kb kc) kr
noncomputable def bind1 (i : Nat) (v : MV) (loc : L) (_ : St) (k : L → Bool) : Bool := okK v fun v => k (lset loc i v)
noncomputable def forL (bd : MV → L → St → (L → Bool) → Bool) (x : Nat) (b : S) (n : Nat) : Nat → L → St → (L → St → Bool) → (MV → St → Bool) → Bool :=
  Nat.rec (fun _ _ _ _ _ => false) (fun _ ih i loc st kn kr => withObj st x fun o => lstOr o fun l => Bool.rec (kn loc st) (bd (lget l i) loc st fun loc => b loc st (fun loc st => ih (Nat.succ i) loc st kn kr) kr kn (fun loc st => ih (Nat.succ i) loc st kn kr)) (Nat.blt i l.length)) n
noncomputable def sForT (n : Nat) (is : List Nat) (e : X) (b rest : S) : S := fun loc st kn kr kb kc => e loc st fun v st => ifOwn v fun x => forL (bindT is) x b n 0 loc st (fun loc st => rest loc st kn kr kb kc) kr
noncomputable def sFor (n : Nat) (i : Nat) (e : X) (b rest : S) : S := fun loc st kn kr kb kc => e loc st fun v st => ifOwn v fun x => forL (bind1 i) x b n 0 loc st (fun loc st => rest loc st kn kr kb kc) kr
noncomputable def forR (i : Nat) (b : S) (n : Nat) : Nat → Nat → L → St → (L → St → Bool) → (MV → St → Bool) → Bool :=
  Nat.rec (fun _ _ _ _ _ _ => false) (fun _ ih a m loc st kn kr => Bool.rec (kn loc st) (b (lset loc i (.int (.ofNat a))) st (fun loc st => ih (Nat.succ a) m loc st kn kr) kr kn (fun loc st => ih (Nat.succ a) m loc st kn kr)) (Nat.blt a m)) n
noncomputable def sForR (n : Nat) (i : Nat) (e : X) (b rest : S) : S := fun loc st kn kr kb kc => e loc st fun v st => natV v fun m => Bool.rec false (forR i b n 0 m loc st (fun loc st => rest loc st kn kr kb kc) kr) (Nat.ble m 1000)
noncomputable def sRet (e : X) : S := fun loc st _ kr _ _ => e loc st kr
noncomputable def sRetN : S := fun _ st _ kr _ _ => kr .none st
noncomputable def sBrk : S := fun loc st _ _ kb _ => kb loc st
noncomputable def sCont : S := fun loc st _ _ _ kc => kc loc st
-- the two cuts
noncomputable def xCode : X := fun _ st k => k .code st
noncomputable def lookup (t : List (List Nat × Bool)) (s : List Nat) : Option Bool := List.rec Option.none (fun p _ ih => Bool.rec ih (some p.2) (strB p.1 s)) t
noncomputable def isCodeV (v : MV) (b : Bool) : Bool := MV.rec false false (fun _ => false) (fun _ => false) (fun _ => false) (fun _ => false) (fun _ => false) b (fun _ => false) (fun _ => false) v
noncomputable def xMet (t : List (List Nat × Bool)) (o r : X) : X := fun loc st k => o loc st fun x st => r loc st fun y st => ifStr y fun s => Option.rec false (fun b => isCodeV x (k (.bool b) st)) (lookup t s)
/-- a row of the table: the size, the form, the row -/
noncomputable def inRows (z f : Int) (r : List Nat) (t : List (Nat × Nat × List Nat)) : Bool := List.rec false (fun p _ ih => Bool.rec ih (Bool.rec ih (Bool.rec ih true (strB p.2.2 r)) (eqB f (.ofNat p.2.1))) (eqB z (.ofNat p.1))) t
noncomputable def isNum (v : MV) : Bool := MV.rec false false (fun _ => false) (fun _ => true) (fun _ => false) (fun _ => false) (fun _ => true) false (fun _ => false) (fun _ => false) v
noncomputable def nums (l : L) : Nat → Bool := List.rec (fun n => Nat.beq n 4) (fun v _ ih n => Bool.rec false (ih (Nat.succ n)) (isNum v)) l
/-- what stands after this is shown apart, from a state that knows only the four numbers, the size, the form and the row; it answers True -/
noncomputable def sCut (ic iz iF ir : Nat) (t : List (Nat × Nat × List Nat)) : S := fun loc st _ kr _ _ =>
  onLst (lget loc ic) st fun _ l => Bool.rec false (ifInt (lget loc iz) fun z => ifInt (lget loc iF) fun f => ifStr (lget loc ir) fun r => Bool.rec false (kr (.bool true) st) (inRows z f r t)) (nums l 0)
end Mine

open PySem PySem.W PySem.Calls PyProof.Rows
set_option Elab.async false
set_option maxRecDepth 100000
namespace Mine
/-! ## pairs of lists -/
inductive All2 {α β : Type} (R : α → β → Prop) : List α → List β → Prop
  | nil : All2 R [] []
  | cons {a b l m} : R a b → All2 R l m → All2 R (a :: l) (b :: m)
namespace All2
variable {α β : Type} {R R' : α → β → Prop}
theorem mono (h : ∀ a b, R a b → R' a b) {l : List α} {m : List β} (x : All2 R l m) : All2 R' l m := by
  induction x with
  | nil => exact .nil
  | cons a _ ih => exact .cons (h _ _ a) ih
theorem length {l : List α} {m : List β} (x : All2 R l m) : l.length = m.length := by
  induction x with
  | nil => rfl
  | cons _ _ ih => simp [ih]
theorem append {l : List α} {m : List β} (x : All2 R l m) {l' : List α} {m' : List β} (y : All2 R l' m') : All2 R (l ++ l') (m ++ m') := by
  induction x with
  | nil => exact y
  | cons a _ ih => exact .cons a ih
theorem one {a : α} {b : β} (h : R a b) : All2 R [a] [b] := .cons h .nil
theorem reverse {l : List α} {m : List β} (x : All2 R l m) : All2 R l.reverse m.reverse := by
  induction x with
  | nil => exact .nil
  | cons a _ ih => rw [List.reverse_cons, List.reverse_cons]; exact ih.append (one a)
theorem take {l : List α} {m : List β} (x : All2 R l m) : ∀ n, All2 R (l.take n) (m.take n) := by
  induction x with
  | nil => intro n; simp; exact .nil
  | cons a _ ih => intro n; cases n with
    | zero => exact .nil
    | succ n => exact .cons a (ih n)
theorem drop {l : List α} {m : List β} (x : All2 R l m) : ∀ n, All2 R (l.drop n) (m.drop n) := by
  induction x with
  | nil => intro n; simp; exact .nil
  | cons a h ih => intro n; cases n with
    | zero => exact .cons a h
    | succ n => exact ih n
theorem get {l : List α} {m : List β} (x : All2 R l m) : ∀ {i : Nat} {b : β}, m[i]? = some b → ∃ a, l[i]? = some a ∧ R a b := by
  induction x with
  | nil => intro i b h; simp at h
  | cons a _ ih => intro i b h; cases i with
    | zero => simp at h; subst h; exact ⟨_, rfl, a⟩
    | succ i => simp at h; obtain ⟨y, e, r⟩ := ih h; exact ⟨y, by simpa using e, r⟩
theorem get' {l : List α} {m : List β} (x : All2 R l m) : ∀ {i : Nat} {a : α}, l[i]? = some a → ∃ b, m[i]? = some b ∧ R a b := by
  induction x with
  | nil => intro i b h; simp at h
  | cons a _ ih => intro i b h; cases i with
    | zero => simp at h; subst h; exact ⟨_, rfl, a⟩
    | succ i => simp at h; obtain ⟨y, e, r⟩ := ih h; exact ⟨y, by simpa using e, r⟩
theorem set {l : List α} {m : List β} (x : All2 R l m) {a : α} {b : β} (h : R a b) : ∀ i, All2 R (l.set i a) (m.set i b) := by
  induction x with
  | nil => intro i; simp; exact .nil
  | cons c d ih => intro i; cases i with
    | zero => exact .cons h d
    | succ i => exact .cons c (ih i)
theorem snoc {l : List α} {m : List β} {b : β} (x : All2 R l (m ++ [b])) : ∃ l' a, l = l' ++ [a] ∧ All2 R l' m ∧ R a b := by
  have y := x.reverse
  rw [List.reverse_append] at y
  cases h : l.reverse with
  | nil => rw [h] at y; cases y
  | cons a t =>
    rw [h] at y
    cases y with
    | cons r z => exact ⟨t.reverse, a, by rw [← List.reverse_reverse l, h, List.reverse_cons], by simpa using z.reverse, r⟩
theorem of_cons {a : α} {l : List α} {b : β} {m : List β} (x : All2 R (a :: l) (b :: m)) : R a b ∧ All2 R l m := by cases x; exact ⟨by assumption, by assumption⟩
end All2

/-! ## the evaluator's small functions -/
theorem lget_eq (l : Mine.L) (i : Nat) : lget l i = l.getD i .unb := by
  induction l generalizing i with
  | nil => rfl
  | cons a l ih => cases i with
    | zero => rfl
    | succ i => exact ih i
theorem lget_some {l : Mine.L} {i : Nat} (h : lget l i ≠ .unb) : l[i]? = some (lget l i) := by
  rw [lget_eq] at h ⊢
  cases e : l[i]? with
  | none => simp [List.getD, e] at h
  | some a => simp [List.getD, e]
theorem lget_of {l : Mine.L} {i : Nat} {v : MV} (h : l[i]? = some v) : lget l i = v := by rw [lget_eq]; simp [List.getD, h]
theorem lget_lset (l : Mine.L) (i : Nat) (v : MV) (j : Nat) : lget (lset l i v) j = if j = i then v else lget l j := by
  induction l generalizing i j with
  | nil =>
    induction i generalizing j with
    | zero => cases j with
      | zero => rfl
      | succ j => rfl
    | succ i ih => cases j with
      | zero => rfl
      | succ j =>
        show lget (lset [] i v) j = _
        rw [ih j]
        by_cases h : j = i <;> simp [h]
        rfl
  | cons a l ih =>
    cases i with
    | zero => cases j with
      | zero => rfl
      | succ j => rfl
    | succ i => cases j with
      | zero => rfl
      | succ j =>
        show lget (lset l i v) j = _
        rw [ih i j]
        by_cases h : j = i <;> simp [h]
        rfl
theorem lset_eq {l : Mine.L} {i : Nat} (h : i < l.length) (v : MV) : lset l i v = l.set i v := by
  induction l generalizing i with
  | nil => simp at h
  | cons a l ih => cases i with
    | zero => rfl
    | succ i =>
      show a :: lset l i v = _
      rw [ih (by simpa using h)]; rfl
theorem strB_iff (a b : List Nat) : strB a b = true ↔ a = b := by
  induction a generalizing b with
  | nil => cases b with
    | nil => exact ⟨fun _ => rfl, fun _ => rfl⟩
    | cons => exact ⟨fun h => (nomatch h), fun h => (nomatch h)⟩
  | cons x a ih => cases b with
    | nil => exact ⟨fun h => (nomatch h), fun h => (nomatch h)⟩
    | cons y b =>
      show (Bool.rec false (strB a b) (Nat.beq x y) : Bool) = true ↔ _
      cases h : Nat.beq x y with
      | false => exact ⟨fun q => (nomatch q), fun q => by cases q; simp at h⟩
      | true => rw [Nat.eq_of_beq_eq_true h]; exact ⟨fun q => by rw [(ih b).mp q], fun q => (ih b).mpr (List.cons.inj q).2⟩
theorem strB_eq (a b : List Nat) : strB a b = decide (a = b) := by
  by_cases h : a = b
  · rw [(strB_iff a b).mpr h, decide_eq_true h]
  · rw [decide_eq_false h]
    cases q : strB a b with
    | false => rfl
    | true => exact absurd ((strB_iff a b).mp q) h
theorem eqB_eq (a b : Int) : eqB a b = (a == b) := by
  cases a with
  | ofNat m => cases b with
    | ofNat n =>
      show Nat.beq m n = _
      cases h : Nat.beq m n with
      | true => rw [Nat.eq_of_beq_eq_true h]; simp
      | false => have := Nat.ne_of_beq_eq_false h; symm; rw [beq_eq_false_iff_ne]; intro q; exact this (Int.ofNat.inj q)
    | negSucc n => show false = _; symm; rw [beq_eq_false_iff_ne]; intro q; cases q
  | negSucc m => cases b with
    | ofNat n => show false = _; symm; rw [beq_eq_false_iff_ne]; intro q; cases q
    | negSucc n =>
      show Nat.beq m n = _
      cases h : Nat.beq m n with
      | true => rw [Nat.eq_of_beq_eq_true h]; simp
      | false => have := Nat.ne_of_beq_eq_false h; symm; rw [beq_eq_false_iff_ne]; intro q; exact this (Int.negSucc.inj q)
theorem ltB_eq (a b : Int) : ltB a b = decide (a < b) := by
  have key : ltB a b = true ↔ a < b := by
    cases a with
    | ofNat m => cases b with
      | ofNat n => show Nat.blt m n = true ↔ _; rw [PySem.W.Z.blt_iff]; show _ ↔ ((m : Int) < (n : Int)); omega
      | negSucc n => show false = true ↔ _; constructor <;> intro h <;> first | cases h | (exfalso; have : (m : Int) < Int.negSucc n := h; omega)
    | negSucc m => cases b with
      | ofNat n => show true = true ↔ _; constructor <;> intro _ <;> first | rfl | (show Int.negSucc m < (n : Int); omega)
      | negSucc n => show Nat.blt n m = true ↔ _; rw [PySem.W.Z.blt_iff]; omega
  by_cases h : a < b
  · rw [key.mpr h, decide_eq_true h]
  · rw [decide_eq_false h]
    cases q : ltB a b with
    | false => rfl
    | true => exact absurd (key.mp q) h
theorem addI_eq (a b : Int) : addI a b = a + b := by
  cases a with
  | ofNat m => cases b <;> rfl
  | negSucc m => rfl
theorem subI_eq (a b : Int) : subI a b = a - b := by
  cases a with
  | ofNat m => cases b with
    | ofNat n =>
      show (Bool.rec (Int.sub (Int.ofNat m) (Int.ofNat n)) (Int.ofNat (Nat.sub m n)) (Nat.ble n m) : Int) = _
      cases h : Nat.ble n m with
      | false => rfl
      | true =>
        have := Nat.le_of_ble_eq_true h
        show ((m - n : Nat) : Int) = (m : Int) - (n : Int)
        omega
    | negSucc n => rfl
  | negSucc m => rfl
theorem few_of {α : Type} {l : List α} {b : Bool} (h : few l b = true) : l.length ≤ 1000 ∧ b = true := by
  unfold few at h
  cases q : Nat.ble l.length 1000 with
  | false => rw [q] at h; cases h
  | true => rw [q] at h; exact ⟨Nat.le_of_ble_eq_true q, h⟩

theorem T.get_node (v : MO) (l r : Mine.T) (i : Nat) : (T.node v l r).get i = if i = 0 then some v else if i % 2 = 1 then l.get (i / 2) else r.get (i / 2 - 1) := by
  show (Bool.rec (Bool.rec (r.get (i / 2 - 1)) (l.get (i / 2)) (Nat.beq (i % 2) 1)) (some v) (Nat.beq i 0) : Option MO) = _
  cases h : Nat.beq i 0 with
  | true => rw [if_pos (Nat.eq_of_beq_eq_true h)]
  | false =>
    rw [if_neg (Nat.ne_of_beq_eq_false h)]
    cases q : Nat.beq (i % 2) 1 with
    | true => rw [if_pos (Nat.eq_of_beq_eq_true q)]
    | false => rw [if_neg (Nat.ne_of_beq_eq_false q)]
theorem T.set_node (v : MO) (l r : Mine.T) (i : Nat) (x : MO) : (T.node v l r).set i x = if i = 0 then T.node x l r else if i % 2 = 1 then T.node v (l.set (i / 2) x) r else T.node v l (r.set (i / 2 - 1) x) := by
  show (Bool.rec (Bool.rec (T.node v l (r.set (i / 2 - 1) x)) (T.node v (l.set (i / 2) x) r) (Nat.beq (i % 2) 1)) (T.node x l r) (Nat.beq i 0) : Mine.T) = _
  cases h : Nat.beq i 0 with
  | true => rw [if_pos (Nat.eq_of_beq_eq_true h)]
  | false =>
    rw [if_neg (Nat.ne_of_beq_eq_false h)]
    cases q : Nat.beq (i % 2) 1 with
    | true => rw [if_pos (Nat.eq_of_beq_eq_true q)]
    | false => rw [if_neg (Nat.ne_of_beq_eq_false q)]
theorem T.set_other (x : MO) : ∀ (t : Mine.T) {i j : Nat}, j ≠ i → (t.set i x).get j = t.get j
  | .nil, i, j, h => by
    show (T.get (Bool.rec T.nil (T.node x .nil .nil) (Nat.beq i 0)) j) = _
    cases q : Nat.beq i 0 with
    | false => rfl
    | true =>
      have hi := Nat.eq_of_beq_eq_true q
      show (T.node x .nil .nil).get j = _
      rw [T.get_node, if_neg (fun e => h (e.trans hi.symm))]
      split <;> rfl
  | .node v l r, i, j, h => by
    rw [T.set_node]
    by_cases i0 : i = 0
    · have j0 : j ≠ 0 := fun e => h (e.trans i0.symm)
      rw [if_pos i0, T.get_node, T.get_node]
      simp only [if_neg j0]
    · rw [if_neg i0]
      by_cases i1 : i % 2 = 1
      · rw [if_pos i1, T.get_node, T.get_node]
        by_cases j0 : j = 0
        · rw [if_pos j0, if_pos j0]
        · rw [if_neg j0, if_neg j0]
          by_cases j1 : j % 2 = 1
          · rw [if_pos j1, if_pos j1]; exact T.set_other x l (fun e => h (by omega))
          · rw [if_neg j1, if_neg j1]
      · rw [if_neg i1, T.get_node, T.get_node]
        by_cases j0 : j = 0
        · rw [if_pos j0, if_pos j0]
        · rw [if_neg j0, if_neg j0]
          by_cases j1 : j % 2 = 1
          · rw [if_pos j1, if_pos j1]
          · rw [if_neg j1, if_neg j1]; exact T.set_other x r (fun e => h (by omega))
theorem T.set_self (x : MO) : ∀ (t : Mine.T) {i : Nat} {o : MO}, (t.set i x).get i = some o → o = x
  | .nil, i, o, h => by
    have h : T.get (Bool.rec T.nil (T.node x .nil .nil) (Nat.beq i 0)) i = some o := h
    cases q : Nat.beq i 0 with
    | false => rw [q] at h; cases h
    | true =>
      rw [q] at h
      have h : (T.node x .nil .nil).get i = some o := h
      rw [T.get_node, if_pos (Nat.eq_of_beq_eq_true q)] at h
      cases h; rfl
  | .node v l r, i, o, h => by
    rw [T.set_node] at h
    by_cases i0 : i = 0
    · rw [if_pos i0, T.get_node, if_pos i0] at h; cases h; rfl
    · rw [if_neg i0] at h
      by_cases i1 : i % 2 = 1
      · rw [if_pos i1, T.get_node, if_neg i0, if_pos i1] at h; exact T.set_self x l h
      · rw [if_neg i1, T.get_node, if_neg i0, if_neg i1] at h; exact T.set_self x r h
theorem T.set_get {t : Mine.T} {i j : Nat} {x o : MO} (h : (t.set i x).get j = some o) : (j = i ∧ o = x) ∨ (j ≠ i ∧ t.get j = some o) := by
  by_cases q : j = i
  · subst q; exact .inl ⟨rfl, T.set_self x t h⟩
  · exact .inr ⟨q, (T.set_other x t q).symm.trans h⟩
end Mine

open PySem PySem.W PySem.Calls PyProof.Rows
set_option Elab.async false
set_option maxRecDepth 100000
namespace Mine
/-! ## what the ids stand for -/
noncomputable def strV (l : List Nat) : Str := ⟨l.toArray⟩
theorem strV_inj {a b : List Nat} : strV a = strV b ↔ a = b := by
  constructor
  · intro h; have := congrArg Str.cps h; simpa [strV] using this
  · intro h; rw [h]
theorem strV_beq (a b : List Nat) : (strV a == strV b) = strB a b := by
  rw [strB_eq]
  by_cases h : a = b
  · rw [h]; simp
  · rw [decide_eq_false h, beq_eq_false_iff_ne]; intro q; exact h (strV_inj.mp q)
noncomputable def attrS : List Str := ["orders", "pc", "at", "named", "marks", "calls", "subject", "host", "history", "values", "limit", "refused", "width", "steps", "log", "kind", "owner", "key"]

noncomputable def clsL : List Nat := [94, 208, 449, 526, 582]
structure Wd where
  ρ : List (Nat × Nat)
  σ : List Int
  H : Nat → Option Obj

noncomputable def LitR (v : Value) : MV → Prop
  | .none => v = .none
  | .int i => ∃ t, v = .int i t
  | .str l => (∃ t, v = .str (strV l) t) ∧ l.length ≤ 1000
  | _ => False
noncomputable def OrdAt (H : Nat → Option Obj) (a : Nat) (row : Mine.L) : Prop := ∃ o n vs, H a = some o ∧ o.cls = .type "tuple" ∧ o.data = .seq vs n ∧ All2 LitR vs.toList row
variable (code : O1) in
noncomputable def CodeAt (H : Nat → Option Obj) (a : Nat) : Prop :=
  ∃ o n vs, H a = some o ∧ o.cls = .type "list" ∧ o.data = .seq vs n ∧ vs.size ≤ 1000 ∧ ∀ j row, code.get j = some row → ∃ b, vs.toList[j]? = some (.ref b) ∧ OrdAt H b row
structure G where
  prog : Program
  w : World
  h0 : Heap
  code : O1
/-- the script's first ints -/
noncomputable def ScrAt (H : Nat → Option Obj) (σ : List Int) (a : Nat) (j : Nat) : Prop :=
  ∃ o n vs, H a = some o ∧ o.cls = .type "list" ∧ o.data = .seq vs n ∧ vs.size ≤ 2 ^ 20 ∧ (vs.toList.take 4).length = j ∧ ∀ i, i < j → ∃ x t, vs.toList[i]? = some (.int x t) ∧ σ[i]? = some x
noncomputable def VR (g : G) (μ : Wd) (v : Value) : MV → Prop
  | .unb => False
  | .none => v = .none
  | .bool b => v = .bool b
  | .int i => ∃ t, v = .int i t
  | .str l => (∃ t, v = .str (strV l) t) ∧ l.length ≤ 1000
  | .own i => ∃ a, μ.ρ[i]? = some a ∧ v = .ref a.1
  | .sym i => ∃ x t, μ.σ[i]? = some x ∧ v = .int x t
  | .code => ∃ a, v = .ref a ∧ CodeAt g.code μ.H a
  | .ord i => ∃ a row, v = .ref a ∧ g.code.get i = some row ∧ OrdAt μ.H a row
  | .scr j => ∃ a, v = .ref a ∧ ScrAt μ.H μ.σ a j
noncomputable def ER (g : G) (μ : Wd) (e : DictEntry) (p : Nat × MV) : Prop := ∃ x t, attrS[p.1]? = some x ∧ e.key = .str x t ∧ e.hash = PyData.keyHash g.w.params x ∧ VR g μ e.val p.2
noncomputable def DR (g : G) (μ : Wd) (e : Str × Value) (p : List Nat × MV) : Prop := e.1 = strV p.1 ∧ VR g μ e.2 p.2
noncomputable def ObjIs (g : G) (μ : Wd) (h : Heap) (a : Nat × Nat) : MO → Prop
  | .tup l => ∃ vs, IsTup h a.1 vs ∧ All2 (VR g μ) vs.toList l ∧ l.length ≤ 1000
  | .lst l => ∃ vs n, IsL h a.1 vs n ∧ All2 (VR g μ) vs.toList l ∧ l.length ≤ 1000
  | .inst c fs => a.1 ≠ a.2 ∧ ∃ es n, h.get? a.1 = some (instObj c a.2) ∧ h.get? a.2 = some (dictOf es n) ∧ All2 (ER g μ) es fs ∧ fs.length ≤ 1000 ∧ c ∈ clsL
  | .dct fs => ∃ kvs, h.DictOf (PySem.strKind g.prog g.w) a.1 kvs ∧ All2 (DR g μ) kvs fs ∧ fs.length ≤ 1000
noncomputable def Foot (μ : Wd) (b : Nat) : Prop := ∃ a ∈ μ.ρ, b = a.1 ∨ b = a.2
structure Hp (g : G) (μ : Wd) (st : Mine.St) (h : Heap) : Prop where
  base : ∀ b o, g.h0.get? b = some o → μ.H b = some o
  keep : ∀ b o, μ.H b = some o → h.get? b = some o
  nρ : μ.ρ.length = st.n
  nσ : μ.σ.length = st.m
  obj : ∀ i mo, st.h.get i = some mo → ∃ a, μ.ρ[i]? = some a ∧ ObjIs g μ h a mo
  low : ∀ a ∈ μ.ρ, (∃ o, h.get? a.1 = some o) ∧ (∃ o, h.get? a.2 = some o)
  free : ∀ a ∈ μ.ρ, μ.H a.1 = none ∧ μ.H a.2 = none
  apart : ∀ (i j : Nat) (a b : Nat × Nat), i ≠ j → μ.ρ[i]? = some a → μ.ρ[j]? = some b → a.1 ≠ b.1 ∧ a.1 ≠ b.2 ∧ a.2 ≠ b.1 ∧ a.2 ≠ b.2
  facts : ∀ p ∈ st.fs, ∃ x, μ.σ[p.1]? = some x ∧ 0 < p.2.1 ∧ Int.fmod x (p.2.1 : Int) = (p.2.2 : Int)
structure Step (Ex : Nat → Prop) (μ μ' : Wd) (h h' : Heap) : Prop where
  ρ : ∃ r, μ'.ρ = μ.ρ ++ r ∧ ∀ a ∈ r, h.get? a.1 = none ∧ h.get? a.2 = none
  σ : ∃ r, μ'.σ = μ.σ ++ r
  H : ∀ b o, μ.H b = some o → μ'.H b = some o
  H' : ∀ b o, μ'.H b = some o → μ.H b = some o ∨ h.get? b = none
  keep : ∀ b o, h.get? b = some o → ¬ Foot μ b → ¬ Ex b → h'.get? b = some o
  stay : ∀ b o, h.get? b = some o → ∃ o', h'.get? b = some o'
noncomputable def none' : Nat → Prop := fun _ => False
noncomputable def Same (s s' : Shared) : Prop := ∃ h t, s' = { s with heap := h, toks := t }
theorem Same.refl (s : Shared) : Same s s := ⟨s.heap, s.toks, rfl⟩
theorem Same.trans {s s' s'' : Shared} (x : Same s s') (y : Same s' s'') : Same s s'' := by
  obtain ⟨h, t, rfl⟩ := x; obtain ⟨h', t', rfl⟩ := y; exact ⟨h', t', rfl⟩
theorem Same.mk' {s : Shared} {h : Heap} {t : Nat} : Same s { s with heap := h, toks := t } := ⟨h, t, rfl⟩
theorem Same.heap {s : Shared} {h : Heap} : Same s { s with heap := h } := ⟨h, s.toks, rfl⟩
theorem Same.toks {s : Shared} {t : Nat} : Same s { s with toks := t } := ⟨s.heap, t, rfl⟩

section
variable {Ex : Nat → Prop} {μ μ' μ'' : Wd} {h h' h'' : Heap}
theorem Step.refl (μ : Wd) (h : Heap) : Step Ex μ μ h h := ⟨⟨[], by simp⟩, ⟨[], by simp⟩, fun _ _ e => e, fun _ _ e => .inl e, fun _ _ e _ _ => e, fun _ o e => ⟨o, e⟩⟩
theorem Step.foot (x : Step Ex μ μ' h h') {b : Nat} {o : Obj} (hb : h.get? b = some o) (hf : Foot μ' b) : Foot μ b := by
  obtain ⟨a, ha, q⟩ := hf
  obtain ⟨r, e, hr⟩ := x.ρ
  rw [e] at ha
  rcases List.mem_append.mp ha with ha | ha
  · exact ⟨a, ha, q⟩
  · have := hr a ha
    rcases q with rfl | rfl
    · rw [this.1] at hb; cases hb
    · rw [this.2] at hb; cases hb
theorem Step.fresh (x : Step Ex μ μ' h h') {b : Nat} (e : h'.get? b = none) : h.get? b = none := by
  cases q : h.get? b with
  | none => rfl
  | some o => obtain ⟨o', z⟩ := x.stay b o q; rw [e] at z; cases z
theorem Step.trans (x : Step Ex μ μ' h h') (y : Step Ex μ' μ'' h' h'') : Step Ex μ μ'' h h'' := by
  obtain ⟨r, e, hr⟩ := x.ρ
  obtain ⟨r', e', hr'⟩ := y.ρ
  obtain ⟨q, f⟩ := x.σ
  obtain ⟨q', f'⟩ := y.σ
  refine ⟨⟨r ++ r', by rw [e', e, List.append_assoc], fun a ha => ?_⟩, ⟨q ++ q', by rw [f', f, List.append_assoc]⟩, fun b o z => y.H b o (x.H b o z), fun b o z => ?_, fun b o z n1 n2 => ?_, fun b o z => let ⟨o', z'⟩ := x.stay b o z; y.stay b o' z'⟩
  · rcases List.mem_append.mp ha with ha | ha
    · exact hr a ha
    · exact ⟨x.fresh (hr' a ha).1, x.fresh (hr' a ha).2⟩
  · rcases y.H' b o z with z | z
    · exact x.H' b o z
    · exact .inr (x.fresh z)
  · exact y.keep b o (x.keep b o z n1 n2) (fun q => n1 (x.foot z q)) n2
theorem Step.weaken {Ex' : Nat → Prop} (x : Step Ex μ μ' h h') (k : ∀ b, Ex b → Ex' b) : Step Ex' μ μ' h h' := ⟨x.ρ, x.σ, x.H, x.H', fun b o e n1 n2 => x.keep b o e n1 (fun q => n2 (k b q)), x.stay⟩
theorem Step.any {Ex' : Nat → Prop} (x : Step none' μ μ' h h') : Step Ex' μ μ' h h' := x.weaken fun _ q => q.elim
theorem OrdAt.mono {H H' : Nat → Option Obj} (k : ∀ b o, H b = some o → H' b = some o) {a : Nat} {row : Mine.L} (x : OrdAt H a row) : OrdAt H' a row := by
  obtain ⟨o, n, vs, e, r⟩ := x; exact ⟨o, n, vs, k _ _ e, r⟩
theorem CodeAt.mono {c : O1} {H H' : Nat → Option Obj} (k : ∀ b o, H b = some o → H' b = some o) {a : Nat} (x : CodeAt c H a) : CodeAt c H' a := by
  obtain ⟨o, n, vs, e, q1, q2, q3, r⟩ := x
  exact ⟨o, n, vs, k _ _ e, q1, q2, q3, fun j row hj => let ⟨b, e1, e2⟩ := r j row hj; ⟨b, e1, e2.mono k⟩⟩
structure Ext (μ μ' : Wd) : Prop where
  ρ : ∃ r, μ'.ρ = μ.ρ ++ r
  σ : ∃ r, μ'.σ = μ.σ ++ r
  H : ∀ b o, μ.H b = some o → μ'.H b = some o
theorem Step.ext (x : Step Ex μ μ' h h') : Ext μ μ' := ⟨let ⟨r, e, _⟩ := x.ρ; ⟨r, e⟩, x.σ, x.H⟩
theorem Ext.ρ_get (x : Ext μ μ') {i : Nat} {a : Nat × Nat} (e : μ.ρ[i]? = some a) : μ'.ρ[i]? = some a := by
  obtain ⟨r, q⟩ := x.ρ
  rw [q, List.getElem?_append_left (List.getElem?_eq_some_iff.mp e).1]; exact e
theorem Ext.σ_get (x : Ext μ μ') {i : Nat} {a : Int} (e : μ.σ[i]? = some a) : μ'.σ[i]? = some a := by
  obtain ⟨r, q⟩ := x.σ
  rw [q, List.getElem?_append_left (List.getElem?_eq_some_iff.mp e).1]; exact e
theorem Ext.push (μ : Wd) (a : Nat × Nat) : Ext μ ⟨μ.ρ ++ [a], μ.σ, μ.H⟩ := ⟨⟨_, rfl⟩, ⟨[], by simp⟩, fun _ _ e => e⟩
variable {g : G}
theorem VR.ext (x : Ext μ μ') {v : Value} {m : MV} (y : VR g μ v m) : VR g μ' v m := by
  cases m with
  | own i => obtain ⟨a, e, q⟩ := y; exact ⟨a, x.ρ_get e, q⟩
  | sym i => obtain ⟨a, t, e, q⟩ := y; exact ⟨a, t, x.σ_get e, q⟩
  | code => obtain ⟨a, e, q⟩ := y; exact ⟨a, e, q.mono x.H⟩
  | ord i => obtain ⟨a, row, e, q1, q2⟩ := y; exact ⟨a, row, e, q1, q2.mono x.H⟩
  | scr j =>
    obtain ⟨a, e, o, n, vs, q1, q2, q3, q4, q5, q6⟩ := y
    exact ⟨a, e, o, n, vs, x.H _ _ q1, q2, q3, q4, q5, fun i hi => let ⟨z, t, e1, e2⟩ := q6 i hi; ⟨z, t, e1, x.σ_get e2⟩⟩
  | _ => exact y
theorem VR.step (x : Step Ex μ μ' h h') {v : Value} {m : MV} (y : VR g μ v m) : VR g μ' v m := y.ext x.ext
theorem ER.ext (x : Ext μ μ') {v : DictEntry} {m : Nat × MV} (y : ER g μ v m) : ER g μ' v m := by
  obtain ⟨a, t, e1, e2, e3, e4⟩ := y; exact ⟨a, t, e1, e2, e3, e4.ext x⟩
theorem DR.ext (x : Ext μ μ') {v : Str × Value} {m : List Nat × MV} (y : DR g μ v m) : DR g μ' v m := by
  exact ⟨y.1, y.2.ext x⟩
theorem ObjIs.ext {h₁ h₂ : Heap} (x : Ext μ μ') {a : Nat × Nat} {mo : MO} (y : ObjIs g μ h₁ a mo) (k : ∀ b o, (b = a.1 ∨ b = a.2) → h₁.get? b = some o → h₂.get? b = some o) : ObjIs g μ' h₂ a mo := by
  cases mo with
  | tup l => obtain ⟨vs, ⟨o, e, r⟩, q⟩ := y; exact ⟨vs, ⟨o, k _ _ (.inl rfl) e, r⟩, q.1.mono (fun _ _ z => z.ext x), q.2⟩
  | lst l => obtain ⟨vs, n, e, q⟩ := y; exact ⟨vs, n, k _ _ (.inl rfl) e, q.1.mono (fun _ _ z => z.ext x), q.2⟩
  | inst c fs => obtain ⟨ne, es, n, e1, e2, q, l⟩ := y; exact ⟨ne, es, n, k _ _ (.inl rfl) e1, k _ _ (.inr rfl) e2, q.mono (fun _ _ z => z.ext x), l⟩
  | dct fs => obtain ⟨kvs, ⟨o, es, ep, e, r⟩, q, l⟩ := y; exact ⟨kvs, ⟨o, es, ep, k _ _ (.inl rfl) e, r⟩, q.mono (fun _ _ z => z.ext x), l⟩
theorem VR.own_foot {v : Value} {i : Nat} (y : VR g μ v (.own i)) : ∃ a, μ.ρ[i]? = some a ∧ v = .ref a.1 ∧ Foot μ a.1 := by
  obtain ⟨a, e, q⟩ := y; exact ⟨a, e, q, a, List.mem_of_getElem? e, .inl rfl⟩
end
section
variable {g : G} {μ : Wd} {st : Mine.St} {h : Heap}
theorem Hp.h0 (I : Hp g μ st h) : ∀ b o, g.h0.get? b = some o → h.get? b = some o := fun b o e => I.keep b o (I.base b o e)
theorem Hp.ne0 (I : Hp g μ st h) {b : Nat} {o : Obj} (e : g.h0.get? b = some o) {a : Nat × Nat} (ha : a ∈ μ.ρ) : b ≠ a.1 ∧ b ≠ a.2 := by
  have := I.base b o e
  have f := I.free a ha
  constructor <;> (intro q; subst q; simp_all)
theorem Hp.foot_none (I : Hp g μ st h) {b : Nat} (hf : Foot μ b) : μ.H b = none := by
  obtain ⟨a, ha, q⟩ := hf
  rcases q with rfl | rfl
  · exact (I.free a ha).1
  · exact (I.free a ha).2
/-- another heap that keeps what is known -/
theorem Hp.other (I : Hp g μ st h) {h' : Heap} (k : ∀ b o, h.get? b = some o → (Foot μ b ∨ μ.H b ≠ none) → h'.get? b = some o) : Hp g μ st h' := by
  refine ⟨I.base, fun b o e => k b o (I.keep b o e) (.inr (by rw [e]; simp)), I.nρ, I.nσ, fun i mo e => ?_, fun a ha => ?_, I.free, I.apart, I.facts⟩
  · obtain ⟨a, ea, q⟩ := I.obj i mo e
    exact ⟨a, ea, q.ext (Step.refl (Ex := none') μ h).ext fun b o hb z => k b o z (.inl ⟨a, List.mem_of_getElem? ea, hb⟩)⟩
  · obtain ⟨⟨o1, e1⟩, o2, e2⟩ := I.low a ha
    exact ⟨⟨o1, k _ _ e1 (.inl ⟨a, ha, .inl rfl⟩)⟩, o2, k _ _ e2 (.inl ⟨a, ha, .inr rfl⟩)⟩
/-- an object is turned, at its address c -/
theorem Hp.set (I : Hp g μ st h) {i c : Nat} {a : Nat × Nat} {mo mo' : MO} {h' : Heap} (e : st.h.get i = some mo) (ea : μ.ρ[i]? = some a) (hc : c = a.1 ∨ c = a.2)
    (k : ∀ b, b ≠ c → h'.get? b = h.get? b) (hn : ∃ o, h'.get? c = some o) (y : ObjIs g μ h' a mo') : Hp g μ (upd st i mo') h' ∧ Step none' μ μ h h' := by
  have hm := List.mem_of_getElem? ea
  have hf : Foot μ c := ⟨a, hm, hc⟩
  have off : ∀ b, ¬ Foot μ b → h'.get? b = h.get? b := fun b n => k b (fun q => n (q ▸ hf))
  have stay : ∀ b o, h.get? b = some o → ∃ o', h'.get? b = some o' := fun b o z => by
    by_cases q : b = c
    · subst q; exact hn
    · exact ⟨o, (k b q).trans z⟩
  refine ⟨⟨I.base, fun b o z => ?_, I.nρ, I.nσ, fun j mo₂ z => ?_, fun d hd => ?_, I.free, I.apart, I.facts⟩, ⟨⟨[], by simp⟩, ⟨[], by simp⟩, fun _ _ z => z, fun _ _ z => .inl z, fun b o z n _ => (off b n).trans z, stay⟩⟩
  · rw [off b (fun q => by rw [I.foot_none q] at z; cases z)]; exact I.keep b o z
  · have z : (st.h.set i mo').get j = some mo₂ := z
    rcases T.set_get z with ⟨rfl, rfl⟩ | ⟨ne, z⟩
    · exact ⟨a, ea, y⟩
    · obtain ⟨d, ed, q⟩ := I.obj j mo₂ z
      refine ⟨d, ed, q.ext (Step.refl (Ex := none') μ h).ext fun b o hb zz => ?_⟩
      have ap := I.apart j i d a ne ed ea
      have : b ≠ c := by
        rcases hb with rfl | rfl <;> rcases hc with rfl | rfl
        · exact ap.1
        · exact ap.2.1
        · exact ap.2.2.1
        · exact ap.2.2.2
      rw [k b this]; exact zz
  · obtain ⟨⟨o1, e1⟩, o2, e2⟩ := I.low d hd
    exact ⟨stay _ _ e1, stay _ _ e2⟩
/-- a new object: at the addresses of a (new ones) -/
theorem Hp.new (I : Hp g μ st h) {a : Nat × Nat} {mo : MO} {h' : Heap} (k : ∀ b o, h.get? b = some o → h'.get? b = some o)
    (ha : h.get? a.1 = none ∧ h.get? a.2 = none) (la : (∃ o, h'.get? a.1 = some o) ∧ ∃ o, h'.get? a.2 = some o) (y : ObjIs g ⟨μ.ρ ++ [a], μ.σ, μ.H⟩ h' a mo) :
    Hp g ⟨μ.ρ ++ [a], μ.σ, μ.H⟩ ⟨st.h.set st.n mo, Nat.succ st.n, st.m, st.fs⟩ h' ∧ Step none' μ ⟨μ.ρ ++ [a], μ.σ, μ.H⟩ h h' ∧ ∀ v, v = .ref a.1 → VR g ⟨μ.ρ ++ [a], μ.σ, μ.H⟩ v (.own st.n) := by
  have S : Step none' μ ⟨μ.ρ ++ [a], μ.σ, μ.H⟩ h h' := ⟨⟨[a], rfl, fun c hc => by rw [List.mem_singleton.mp hc]; exact ha⟩, ⟨[], by simp⟩, fun _ _ z => z, fun _ _ z => .inl z, fun b o z _ _ => k b o z, fun b o z => ⟨o, k b o z⟩⟩
  have gn : (μ.ρ ++ [a])[st.n]? = some a := by rw [← I.nρ]; simp
  have none_ : ∀ b, h.get? b = none → μ.H b = none := fun b hb => by
    cases q : μ.H b with
    | none => rfl
    | some o => have := I.keep b o q; rw [hb] at this; cases this
  have ne_ : ∀ {c : Nat × Nat}, c ∈ μ.ρ → c.1 ≠ a.1 ∧ c.1 ≠ a.2 ∧ c.2 ≠ a.1 ∧ c.2 ≠ a.2 := fun {c} hc => by
    obtain ⟨⟨o1, e1⟩, o2, e2⟩ := I.low c hc
    refine ⟨fun q => ?_, fun q => ?_, fun q => ?_, fun q => ?_⟩
    · rw [q, ha.1] at e1; cases e1
    · rw [q, ha.2] at e1; cases e1
    · rw [q, ha.1] at e2; cases e2
    · rw [q, ha.2] at e2; cases e2
  refine ⟨⟨I.base, fun b o z => k b o (I.keep b o z), by simp [I.nρ], I.nσ, fun j mo₂ z => ?_, fun c hc => ?_, fun c hc => ?_, fun i j c d ne ec ed => ?_, I.facts⟩, S, fun v hv => ⟨a, gn, hv⟩⟩
  · rcases T.set_get z with ⟨rfl, rfl⟩ | ⟨ne, z⟩
    · exact ⟨a, gn, y⟩
    · obtain ⟨c, ec, q⟩ := I.obj j mo₂ z
      exact ⟨c, S.ext.ρ_get ec, q.ext S.ext fun b o _ zz => k b o zz⟩
  · rcases List.mem_append.mp hc with hc | hc
    · obtain ⟨⟨o1, e1⟩, o2, e2⟩ := I.low c hc
      exact ⟨⟨o1, k _ _ e1⟩, o2, k _ _ e2⟩
    · rw [List.mem_singleton.mp hc]; exact la
  · rcases List.mem_append.mp hc with hc | hc
    · exact I.free c hc
    · rw [List.mem_singleton.mp hc]; exact ⟨none_ _ ha.1, none_ _ ha.2⟩
  · have cases' : ∀ {i : Nat} {c : Nat × Nat}, (μ.ρ ++ [a])[i]? = some c → (i < μ.ρ.length ∧ μ.ρ[i]? = some c) ∨ (i = μ.ρ.length ∧ c = a) := by
      intro i c e
      rw [List.getElem?_append] at e
      split at e
      · rename_i hlt; exact .inl ⟨hlt, e⟩
      · rename_i hlt
        cases q : i - μ.ρ.length with
        | zero => rw [q] at e; simp at e; exact .inr ⟨by omega, e.symm⟩
        | succ n => rw [q] at e; simp at e
    rcases cases' ec with ⟨h1, e1⟩ | ⟨h1, e1⟩ <;> rcases cases' ed with ⟨h2, e2⟩ | ⟨h2, e2⟩
    · exact I.apart i j c d ne e1 e2
    · subst e2; exact ne_ (List.mem_of_getElem? e1)
    · subst e1; have := ne_ (List.mem_of_getElem? e2); exact ⟨Ne.symm this.1, Ne.symm this.2.2.1, Ne.symm this.2.1, Ne.symm this.2.2.2⟩
    · omega
theorem none_at (h : Heap) : h.get? h.objs.size = none := Heap.get?_none_of_le (Nat.le_refl _)
theorem Hp.newTup (I : Hp g μ st h) {vs : List Value} {mvs : Mine.L} (V : All2 (VR g μ) vs mvs) (l : mvs.length ≤ 1000) :
    ∃ μ', Hp g μ' ⟨st.h.set st.n (.tup mvs), Nat.succ st.n, st.m, st.fs⟩ (h.push { cls := .type "tuple", data := .seq vs.toArray }) ∧ Step none' μ μ' h (h.push { cls := .type "tuple", data := .seq vs.toArray }) ∧ VR g μ' (.ref h.objs.size) (.own st.n) := by
  obtain ⟨a, b, c⟩ := I.new (a := (h.objs.size, h.objs.size)) (mo := .tup mvs) (h' := h.push { cls := .type "tuple", data := .seq vs.toArray }) (fun b o e => Heap.get?_push_of_some _ e) ⟨none_at h, none_at h⟩ ⟨⟨_, Heap.get?_push_size _ rfl⟩, _, Heap.get?_push_size _ rfl⟩
    ⟨vs.toArray, ⟨_, Heap.get?_push_size _ rfl, rfl, _, rfl⟩, by simpa using V.mono fun _ _ z => z.ext (Ext.push μ _), l⟩
  exact ⟨_, a, b, c _ rfl⟩
theorem Hp.newLst (I : Hp g μ st h) {vs : List Value} {mvs : Mine.L} (V : All2 (VR g μ) vs mvs) (l : mvs.length ≤ 1000) :
    ∃ μ', Hp g μ' ⟨st.h.set st.n (.lst mvs), Nat.succ st.n, st.m, st.fs⟩ (h.push { cls := .type "list", data := .seq vs.toArray }) ∧ Step none' μ μ' h (h.push { cls := .type "list", data := .seq vs.toArray }) ∧ VR g μ' (.ref h.objs.size) (.own st.n) := by
  obtain ⟨a, b, c⟩ := I.new (a := (h.objs.size, h.objs.size)) (mo := .lst mvs) (h' := h.push { cls := .type "list", data := .seq vs.toArray }) (fun b o e => Heap.get?_push_of_some _ e) ⟨none_at h, none_at h⟩ ⟨⟨_, Heap.get?_push_size _ rfl⟩, _, Heap.get?_push_size _ rfl⟩
    ⟨vs.toArray, 0, Heap.get?_push_size _ rfl, by simpa using V.mono fun _ _ z => z.ext (Ext.push μ _), l⟩
  exact ⟨_, a, b, c _ rfl⟩
theorem alloc_of {o : MO} {k : Mine.K} (x : alloc o st k = true) : k (.own st.n) ⟨st.h.set st.n o, Nat.succ st.n, st.m, st.fs⟩ = true := by
  obtain ⟨hh, n, m, fs⟩ := st
  have x : (Option.rec false (fun _ => k (.own n) ⟨hh.set n o, Nat.succ n, m, fs⟩) ((hh.set n o).get n) : Bool) = true := x
  cases q : (hh.set n o).get n with
  | none => rw [q] at x; cases x
  | some _ => rw [q] at x; exact x
theorem withObj_of {i : Nat} {k : MO → Bool} (x : withObj st i k = true) : ∃ o, st.h.get i = some o ∧ k o = true := by
  unfold withObj at x
  cases q : st.h.get i with
  | none => rw [q] at x; cases x
  | some o => rw [q] at x; exact ⟨o, rfl, x⟩
theorem ifOwn_of {v : MV} {f : Nat → Bool} (x : ifOwn v f = true) : ∃ i, v = .own i ∧ f i = true := by cases v <;> first | exact ⟨_, rfl, x⟩ | cases x
theorem ifInt_of {v : MV} {f : Int → Bool} (x : ifInt v f = true) : ∃ i, v = .int i ∧ f i = true := by cases v <;> first | exact ⟨_, rfl, x⟩ | cases x
theorem ifStr_of {v : MV} {f : List Nat → Bool} (x : ifStr v f = true) : ∃ i, v = .str i ∧ f i = true := by cases v <;> first | exact ⟨_, rfl, x⟩ | cases x
theorem ifBool_of {v : MV} {f : Bool → Bool} (x : ifBool v f = true) : ∃ i, v = .bool i ∧ f i = true := by cases v <;> first | exact ⟨_, rfl, x⟩ | cases x
theorem okK_of {v : MV} {k : MV → Bool} (x : okK v k = true) : v ≠ .unb ∧ k v = true := by cases v <;> first | exact ⟨by simp, x⟩ | cases x
theorem natOr_of {i : Int} {f : Nat → Bool} (x : natOr i f = true) : ∃ n : Nat, i = n ∧ f n = true := by cases i with | ofNat n => exact ⟨n, rfl, x⟩ | negSucc n => cases x
theorem natV_of {v : MV} {f : Nat → Bool} (x : natV v f = true) : ∃ n : Nat, v = .int n ∧ f n = true := by
  obtain ⟨i, rfl, x⟩ := ifInt_of x; obtain ⟨n, rfl, x⟩ := natOr_of x; exact ⟨n, rfl, x⟩
theorem lstOr_of {o : MO} {f : Mine.L → Bool} (x : lstOr o f = true) : ∃ l, o = .lst l ∧ f l = true := by cases o <;> first | exact ⟨_, rfl, x⟩ | cases x
theorem tupOr_of {o : MO} {f : Mine.L → Bool} (x : tupOr o f = true) : ∃ l, o = .tup l ∧ f l = true := by cases o <;> first | exact ⟨_, rfl, x⟩ | cases x
theorem insOr_of {o : MO} {f : Nat → List (Nat × MV) → Bool} (x : insOr o f = true) : ∃ c l, o = .inst c l ∧ f c l = true := by cases o <;> first | exact ⟨_, _, rfl, x⟩ | cases x
theorem dctOr_of {o : MO} {f : List (List Nat × MV) → Bool} (x : dctOr o f = true) : ∃ l, o = .dct l ∧ f l = true := by cases o <;> first | exact ⟨_, rfl, x⟩ | cases x
theorem onLst_of {x : MV} {f : Nat → Mine.L → Bool} (y : onLst x st f = true) : ∃ i l, x = .own i ∧ st.h.get i = some (.lst l) ∧ f i l = true := by
  obtain ⟨i, rfl, y⟩ := ifOwn_of y
  obtain ⟨o, e, y⟩ := withObj_of y
  obtain ⟨l, rfl, y⟩ := lstOr_of y
  exact ⟨i, l, rfl, e, y⟩
theorem bool_of {c : Bool} {a b : Bool} (x : (Bool.rec a b c : Bool) = true) : (c = true ∧ b = true) ∨ (c = false ∧ a = true) := by cases c <;> simp_all
end
end Mine

open PySem PySem.W PySem.Calls PyProof.Rows
set_option Elab.async false
set_option maxRecDepth 100000
namespace Mine
/-! ## a frame's locals; what is shown of an expression -/
structure FI where
  nm : List Str
  sc : Scope
structure EnvOk (fi : FI) (env : Env) : Prop where
  sc : env.scope = fi.sc
  kind : fi.sc.kind = .function
  gl : env.globals = mainGlobals
  bl : env.builtins = builtinsNs
  nd : fi.nm.Nodup
  cl : ∀ x, env.kindOf x = some .cell → ∃ c, env.cells.lookup x = some c
noncomputable def Room (d : Nat) (A : Around) : Prop := A.handled = none ∧ A.depth + 4 * d ≤ 900 ∧ A.units + 20 * d ≤ 5000
theorem Room.le {d d' : Nat} {A : Around} (r : Room d A) (h : d' ≤ d) : Room d' A := ⟨r.1, by have := r.2.1; omega, by have := r.2.2; omega⟩
structure Lo (g : G) (μ : Wd) (fi : FI) (env : Env) (loc : Mine.L) (h : Heap) : Prop where
  off : ¬ Foot μ env.locals
  base : μ.H env.locals = none
  cell : ∀ x c, (x, c) ∈ env.cells → c ≠ env.locals ∧ ¬ Foot μ c ∧ μ.H c = none ∧ ∃ ov, h.IsCell c ov
  ap : env.cells.Pairwise fun x y => x.2 ≠ y.2
  vars : ∃ m, h.Ns env.locals m ∧ ∀ i x, fi.nm[i]? = some x → lget loc i ≠ .unb → ∃ v, VR g μ v (lget loc i) ∧ ((env.kindOf x = some .local ∧ m x = some v) ∨ (env.kindOf x = some .cell ∧ ∃ c, env.cells.lookup x = some c ∧ h.IsCell c (some v)))
section
variable {g : G} {μ μ' : Wd} {fi : FI} {env : Env} {loc : Mine.L} {h h' : Heap}
theorem Lo.stepG {Ex : Nat → Prop} (x : Lo g μ fi env loc h) (S : Step Ex μ μ' h h') (hn : ∀ b, (b = env.locals ∨ ∃ x, (x, b) ∈ env.cells) → ¬ Ex b) : Lo g μ' fi env loc h' := by
  obtain ⟨m, hns, hv⟩ := x.vars
  have kp : ∀ b o, h.get? b = some o → ¬ Foot μ b → (b = env.locals ∨ ∃ x, (x, b) ∈ env.cells) → h'.get? b = some o := fun b o e n q => S.keep b o e n (hn b q)
  have keepL : h'.Ns env.locals m := by obtain ⟨o, es, ep, e, r⟩ := hns; exact ⟨o, es, ep, kp _ _ e x.off (.inl rfl), r⟩
  have off' : ∀ b o, h.get? b = some o → ¬ Foot μ b → ¬ Foot μ' b := fun b o hb n q => n (S.foot hb q)
  have base' : ∀ b o, h.get? b = some o → μ.H b = none → μ'.H b = none := fun b o' hb e => by
    cases q : μ'.H b with
    | none => rfl
    | some o =>
      rcases S.H' b o q with z | z
      · rw [e] at z; cases z
      · rw [hb] at z; cases z
  obtain ⟨oL, eL⟩ : ∃ o, h.get? env.locals = some o := by obtain ⟨o, es, ep, e, r⟩ := hns; exact ⟨o, e⟩
  refine ⟨off' _ _ eL x.off, base' _ _ eL x.base, fun y c hc => ?_, x.ap, m, keepL, fun i y hi ne => ?_⟩
  · obtain ⟨a1, a2, a3, ov, o, e, d⟩ := x.cell y c hc
    exact ⟨a1, off' _ _ e a2, base' _ _ e a3, ov, o, kp _ _ e a2 (.inr ⟨y, hc⟩), d⟩
  · obtain ⟨v, vr, hh⟩ := hv i y hi ne
    refine ⟨v, vr.step S, hh.imp id fun ⟨k, c, hl, o, e, d⟩ => ⟨k, c, hl, o, kp _ _ e ?_ (.inr ⟨y, mem_of_lookup hl⟩), d⟩⟩
    exact (x.cell y c (mem_of_lookup hl)).2.1
theorem Lo.step (x : Lo g μ fi env loc h) (S : Step none' μ μ' h h') : Lo g μ' fi env loc h' := x.stepG S fun _ _ z => z
end
noncomputable def Ret (g : G) (k : Mine.K) (μ : Wd) (s : Shared) (v : Value) (s' : Shared) : Prop :=
  ∃ μ' mv st', Step none' μ μ' s.heap s'.heap ∧ Same s s' ∧ Hp g μ' st' s'.heap ∧ VR g μ' v mv ∧ k mv st' = true
noncomputable def RetB (g : G) (k : Bool → Mine.St → Bool) (μ : Wd) (s : Shared) (b : Bool) (s' : Shared) : Prop :=
  ∃ μ' st', Step none' μ μ' s.heap s'.heap ∧ Same s s' ∧ Hp g μ' st' s'.heap ∧ k b st' = true
noncomputable def RetS (g : G) (n : Nat) (k : Mine.L → Mine.St → Bool) (μ : Wd) (s : Shared) (vs : List Value) (s' : Shared) : Prop :=
  ∃ μ' mvs st', Step none' μ μ' s.heap s'.heap ∧ Same s s' ∧ Hp g μ' st' s'.heap ∧ All2 (VR g μ') vs mvs ∧ vs.length = n ∧ k mvs st' = true
noncomputable def no' : Value → Shared → Prop := fun _ _ => False
section
variable {g : G} {k : Mine.K} {μ μ1 : Wd} {s s1 : Shared} {v : Value} {s' : Shared}
theorem Ret.after (S : Step none' μ μ1 s.heap s1.heap) (m : Same s s1) (x : Ret g k μ1 s1 v s') : Ret g k μ s v s' := by
  obtain ⟨μ', mv, st', a, b, r⟩ := x; exact ⟨μ', mv, st', S.trans a, m.trans b, r⟩
theorem RetB.after {kb : Bool → Mine.St → Bool} {b : Bool} (S : Step none' μ μ1 s.heap s1.heap) (m : Same s s1) (x : RetB g kb μ1 s1 b s') : RetB g kb μ s b s' := by
  obtain ⟨μ', st', a, b, r⟩ := x; exact ⟨μ', st', S.trans a, m.trans b, r⟩
theorem RetS.after {n : Nat} {ks : Mine.L → Mine.St → Bool} {vs : List Value} (S : Step none' μ μ1 s.heap s1.heap) (m : Same s s1) (x : RetS g n ks μ1 s1 vs s') : RetS g n ks μ s vs s' := by
  obtain ⟨μ', mvs, st', a, b, r⟩ := x; exact ⟨μ', mvs, st', S.trans a, m.trans b, r⟩
theorem Ret.leaf {st : Mine.St} {mv : MV} (I : Hp g μ st s.heap) (V : VR g μ v mv) (h : k mv st = true) {t : Nat} : Ret g k μ s v { s with toks := t } := ⟨μ, mv, st, Step.refl _ _, Same.toks, I, V, h⟩
theorem Ret.leaf0 {st : Mine.St} {mv : MV} (I : Hp g μ st s.heap) (V : VR g μ v mv) (h : k mv st = true) : Ret g k μ s v s := ⟨μ, mv, st, Step.refl _ _, Same.refl _, I, V, h⟩
end
noncomputable def SE (g : G) (d : Nat) (fi : FI) (e : Expr) (m : Mine.X) : Prop :=
  ∀ (A : Around) (env : Env) (μ : Wd) (loc : Mine.L) (st : Mine.St) (s : Shared) (k : Mine.K), Room d A → EnvOk fi env → Hp g μ st s.heap → Lo g μ fi env loc s.heap → m loc st k = true →
    wpAny (model g.prog g.w) A (eval e env) (Ret g k μ s) no' s
noncomputable def SB (g : G) (d : Nat) (fi : FI) (e : Expr) (m : Mine.Ts) : Prop :=
  ∀ (A : Around) (env : Env) (μ : Wd) (loc : Mine.L) (st : Mine.St) (s : Shared) (k : Bool → Mine.St → Bool), Room d A → EnvOk fi env → Hp g μ st s.heap → Lo g μ fi env loc s.heap → m loc st k = true →
    wpAny (model g.prog g.w) A (isTrue e env (eval e env)) (RetB g k μ s) no' s
noncomputable def SEs (g : G) (d : Nat) (fi : FI) (es : List Expr) (m : Mine.Xs) : Prop :=
  ∀ (A : Around) (env : Env) (pos : Pos) (μ : Wd) (loc : Mine.L) (st : Mine.St) (s : Shared) (k : Mine.L → Mine.St → Bool), Room d A → EnvOk fi env → Hp g μ st s.heap → Lo g μ fi env loc s.heap → m loc st k = true →
    wpAny (model g.prog g.w) A (spliced (backTo pos (starEach es env))) (RetS g es.length k μ s) no' s
/-- a comparison whose answer is a bool -/
noncomputable def SC (g : G) (d : Nat) (fi : FI) (e : Expr) (m : Mine.Ts) : Prop :=
  ∀ (A : Around) (env : Env) (μ : Wd) (loc : Mine.L) (st : Mine.St) (s : Shared) (k : Bool → Mine.St → Bool), Room d A → EnvOk fi env → Hp g μ st s.heap → Lo g μ fi env loc s.heap → m loc st k = true →
    wpAny (model g.prog g.w) A (eval e env) (fun v s' => ∃ b, v = .bool b ∧ RetB g k μ s b s') no' s ∧ wpAny (model g.prog g.w) A (isTrue e env (eval e env)) (RetB g k μ s) no' s
noncomputable def clsOk (K : Frag) (C : Nat) (name : Str) : Bool := plainGet K C name && hasDictIn K C && (findIn K (.ref C) name).any (noGet K) && plainOver K C && (takerIn K C name == some none) && (findIn K (.ref C) "__setattr__" == some (some (.builtin "object.__setattr__")))
structure Top0 (g : G) (K : Frag) : Prop where
  T : ∃ p loose mg mb, TopRead p loose mg mb g.h0
  X : K.In g.h0
  cls : ∀ c ∈ clsL, ∀ x ∈ attrS, clsOk K c x = true
section
variable {g : G} {d : Nat} {fi : FI}
theorem se_bad {e : Expr} : SE g d fi e xBad := fun _ _ _ _ _ _ _ _ _ _ _ h => nomatch h
theorem se_loc {i : Nat} {x : Str} {pos : Pos} (hx : fi.nm[i]? = some x) (hd : (x == ("__debug__" : Str)) = false := by k_dflt decide) : SE g d fi (.Name x pos) (xLoc i) := by
  intro A env μ loc st s k R En I L h
  obtain ⟨ne, h⟩ := okK_of h
  obtain ⟨m, hn, hv⟩ := L.vars
  obtain ⟨v, V, q⟩ := hv i x hx ne
  have hk : env.scope.kind = .function := by rw [En.sc]; exact En.kind
  refine wpAny_Name ?_ hd
  rcases q with ⟨q1, q2⟩ | ⟨q1, c, q2, q3⟩
  · exact wpAny_loadName_local hk q1 hn q2 (Ret.leaf0 I V h)
  · exact wpAny_loadName_cell hk q1 q2 q3 (Ret.leaf0 I V h)
theorem glob_of {x : Str} {pos : Pos} {v : Value} {K : Frag} {A : Around} {env : Env} {μ : Wd} {st : Mine.St} {s : Shared} {Q : Value → Shared → Prop} {E : Value → Shared → Prop} (C : Top0 g K) (En : EnvOk fi env) (I : Hp g μ st s.heap)
    (e : nsIn K mainGlobals x = some (some v)) (hx : fi.sc.names.lookup x = some .globalImplicit) (h : Q v s) (hd : (x == ("__debug__" : Str)) = false := by k_dflt decide) : wpAny (model g.prog g.w) A (eval (.Name x pos) env) Q E s := by
  obtain ⟨p, loose, mg, mb, T⟩ := C.T
  have hk : env.scope.kind = .function := by rw [En.sc]; exact En.kind
  refine Name_function_global hk (by show env.scope.names.lookup x = _; rw [En.sc]; exact hx) (loadGlobal_global (by rw [En.gl]; exact T.g.keeps I.h0) (mg_of C.X T.g e) h) hd
theorem built_of {x : Str} {pos : Pos} {v : Value} {K : Frag} {A : Around} {env : Env} {μ : Wd} {st : Mine.St} {s : Shared} {Q : Value → Shared → Prop} {E : Value → Shared → Prop} (C : Top0 g K) (En : EnvOk fi env) (I : Hp g μ st s.heap)
    (e : nsIn K mainGlobals x = some none) (hv : bootBuiltins x = some v) (hn : x ≠ "__name__") (hx : fi.sc.names.lookup x = some .globalImplicit) (h : Q v s) (hd : (x == ("__debug__" : Str)) = false := by k_dflt decide) :
    wpAny (model g.prog g.w) A (eval (.Name x pos) env) Q E s := by
  obtain ⟨p, loose, mg, mb, T⟩ := C.T
  have hk : env.scope.kind = .function := by rw [En.sc]; exact En.kind
  refine Name_function_global hk (by show env.scope.names.lookup x = _; rw [En.sc]; exact hx) (loadGlobal_builtin (by rw [En.gl]; exact T.g.keeps I.h0) (mg_none_of C.X T.g e) (by rw [En.bl]; exact T.b.keeps I.h0) ((T.builtins x hn).trans hv) h) hd
theorem se_glob {x : Str} {pos : Pos} {v : Value} {mv : MV} {K : Frag} (C : Top0 g K) (e : nsIn K mainGlobals x = some (some v)) (hV : ∀ μ, VR g μ v mv) (hx : fi.sc.names.lookup x = some .globalImplicit) (hd : (x == ("__debug__" : Str)) = false := by k_dflt decide) :
    SE g d fi (.Name x pos) (xLit mv) := fun _ _ μ _ _ _ _ _ En I _ h => glob_of C En I e hx (Ret.leaf0 I (hV μ) h) hd
theorem se_none {k' : Nat} {pos : Pos} : SE g d fi (.Constant .none k' pos) (xLit .none) := fun _ _ _ _ _ _ _ _ _ I _ h => wpAny_Constant_none (Ret.leaf0 (mv := .none) I rfl h)
theorem se_bool {b : Bool} {k' : Nat} {pos : Pos} : SE g d fi (.Constant (.bool b) k' pos) (xLit (.bool b)) := fun _ _ _ _ _ _ _ _ _ I _ h => wpAny_Constant_bool (Ret.leaf0 (mv := .bool b) I rfl h)
theorem se_int {i : Int} {k' : Nat} {pos : Pos} : SE g d fi (.Constant (.int i) k' pos) (xLit (.int i)) := fun _ _ _ _ _ _ _ _ _ I _ h => wpAny_Constant_int (Ret.leaf (mv := .int i) I ⟨_, rfl⟩ h)
theorem se_str {x : Str} {l : List Nat} {k' : Nat} {pos : Pos} (e : x = strV l) (hl : l.length ≤ 1000) : SE g d fi (.Constant (.str x) k' pos) (xLit (.str l)) := fun _ _ _ _ _ _ _ _ _ I _ h => wpAny_Constant_str (Ret.leaf (mv := .str l) I ⟨⟨_, by rw [e]⟩, hl⟩ h)
theorem se_ite {t a b : Expr} {pos : Pos} {mt : Mine.Ts} {ma mb : Mine.X} (ht : SB g d fi t mt) (ha : SE g d fi a ma) (hb : SE g d fi b mb) : SE g d fi (.IfExp t a b pos) (xIte mt ma mb) := by
  intro A env μ loc st s k R En I L h
  refine wpAny_IfExp (wpAny_mono (ht _ _ _ _ _ _ _ R En I L h) (fun c s1 h1 => ?_) fun _ _ z => z)
  obtain ⟨μ1, st1, S1, m1, I1, h1⟩ := h1
  cases c with
  | true => exact wpAny_mono (ha _ _ _ _ _ _ _ R En I1 (L.step S1) h1) (fun _ _ z => z.after S1 m1) fun _ _ z => z
  | false => exact wpAny_mono (hb _ _ _ _ _ _ _ R En I1 (L.step S1) h1) (fun _ _ z => z.after S1 m1) fun _ _ z => z
theorem se_cmp {e : Expr} {m : Mine.Ts} (h : SC g d fi e m) : SE g d fi e (xBool m) := by
  intro A env μ loc st s k R En I L hm
  refine wpAny_mono (h _ _ _ _ _ _ _ R En I L hm).1 (fun v s1 h1 => ?_) fun _ _ z => z
  obtain ⟨b, rfl, μ1, st1, S1, m1, I1, h1⟩ := h1
  exact ⟨μ1, .bool b, st1, S1, m1, I1, rfl, h1⟩
theorem sb_cmp {e : Expr} {m : Mine.Ts} (h : SC g d fi e m) : SB g d fi e m := fun _ _ _ _ _ _ _ R En I L hm => (h _ _ _ _ _ _ _ R En I L hm).2
theorem sb_val {e : Expr} {m : Mine.X} (h : SE g d fi e m) (he : ∀ env whole, isTrue e env whole = (do let v ← whole; standAt e.pos; holding [v] (truthy v)) := by k_dflt (intro _ _; rfl)) : SB g d fi e (tVal m) := by
  intro A env μ loc st s k R En I L hm
  refine wpAny_isTrue_value (wpAny_mono (h _ _ _ _ _ _ _ R En I L hm) (fun v s1 h1 => ?_) fun _ _ z => z) (he env _)
  obtain ⟨μ1, mv, st1, S1, m1, I1, V1, h1⟩ := h1
  obtain ⟨b, rfl, h1⟩ := ifBool_of h1
  obtain rfl : v = .bool b := V1
  exact wpAny_truthy_bool ⟨μ1, st1, S1, m1, I1, h1⟩
theorem sb_not {e : Expr} {pos : Pos} {m : Mine.Ts} (h : SB g d fi e m) : SB g d fi (.UnaryOp .Not e pos) (tNot m) := by
  intro A env μ loc st s k R En I L hm
  refine wpAny_isTrue_Not (wpAny_mono (h _ _ _ _ _ _ _ R En I L hm) (fun b s1 h1 => ?_) fun _ _ z => z)
  obtain ⟨μ1, st1, S1, m1, I1, h1⟩ := h1
  exact ⟨μ1, st1, S1, m1, I1, h1⟩
theorem sb_and {a b : Expr} {pos : Pos} {ma mb : Mine.Ts} (ha : SB g d fi a ma) (hb : SB g d fi b mb) : SB g d fi (.BoolOp .And [a, b] pos) (tAnd ma mb) := by
  intro A env μ loc st s k R En I L hm
  refine wpAny_isTrue_BoolOp (wpAny_allTrue_And_cons (wpAny_mono (ha _ _ _ _ _ _ _ R En I L hm) (fun c s1 h1 => ?_) fun _ _ z => z))
  obtain ⟨μ1, st1, S1, m1, I1, h1⟩ := h1
  cases c with
  | false => exact ⟨μ1, st1, S1, m1, I1, h1⟩
  | true =>
    refine wpAny_allTrue_And_cons (wpAny_mono (hb _ _ _ _ _ _ _ R En I1 (L.step S1) h1) (fun c s2 h2 => ?_) fun _ _ z => z)
    cases c with
    | false => exact h2.after S1 m1
    | true => exact wpAny_allTrue_And_nil (h2.after S1 m1)
theorem sb_or {a b : Expr} {pos : Pos} {ma mb : Mine.Ts} (ha : SB g d fi a ma) (hb : SB g d fi b mb) : SB g d fi (.BoolOp .Or [a, b] pos) (tOr ma mb) := by
  intro A env μ loc st s k R En I L hm
  refine wpAny_isTrue_BoolOp (wpAny_allTrue_Or_cons (wpAny_mono (ha _ _ _ _ _ _ _ R En I L hm) (fun c s1 h1 => ?_) fun _ _ z => z))
  obtain ⟨μ1, st1, S1, m1, I1, h1⟩ := h1
  cases c with
  | true => exact ⟨μ1, st1, S1, m1, I1, h1⟩
  | false =>
    refine wpAny_allTrue_Or_cons (wpAny_mono (hb _ _ _ _ _ _ _ R En I1 (L.step S1) h1) (fun c s2 h2 => ?_) fun _ _ z => z)
    cases c with
    | true => exact h2.after S1 m1
    | false => exact wpAny_allTrue_Or_nil (h2.after S1 m1)
theorem se_and {a b : Expr} {pos : Pos} {ma mb : Mine.X} (ha : SE g d fi a ma) (hb : SE g d fi b mb) : SE g d fi (.BoolOp .And [a, b] pos) (xAnd ma mb) := by
  intro A env μ loc st s k R En I L hm
  refine wpAny_And2 (wpAny_mono (ha _ _ _ _ _ _ _ R En I L hm) (fun v s1 h1 => ?_) fun _ _ z => z)
  obtain ⟨μ1, mv, st1, S1, m1, I1, V1, h1⟩ := h1
  obtain ⟨c, rfl, h1⟩ := ifBool_of h1
  obtain rfl : v = .bool c := V1
  refine wpAny_truthy_bool ?_
  cases c with
  | false => exact ⟨μ1, .bool false, st1, S1, m1, I1, rfl, h1⟩
  | true => exact wpAny_mono (hb _ _ _ _ _ _ _ R En I1 (L.step S1) h1) (fun _ _ z => z.after S1 m1) fun _ _ z => z
theorem se_or {a b : Expr} {pos : Pos} {ma mb : Mine.X} (ha : SE g d fi a ma) (hb : SE g d fi b mb) : SE g d fi (.BoolOp .Or [a, b] pos) (xOr ma mb) := by
  intro A env μ loc st s k R En I L hm
  refine wpAny_Or2 (wpAny_mono (ha _ _ _ _ _ _ _ R En I L hm) (fun v s1 h1 => ?_) fun _ _ z => z)
  obtain ⟨μ1, mv, st1, S1, m1, I1, V1, h1⟩ := h1
  obtain ⟨c, rfl, h1⟩ := ifBool_of h1
  obtain rfl : v = .bool c := V1
  refine wpAny_truthy_bool ?_
  cases c with
  | true => exact ⟨μ1, .bool true, st1, S1, m1, I1, rfl, h1⟩
  | false => exact wpAny_mono (hb _ _ _ _ _ _ _ R En I1 (L.step S1) h1) (fun _ _ z => z.after S1 m1) fun _ _ z => z
theorem ses_nil : SEs g d fi [] yNil := fun _ _ _ μ _ st _ _ _ _ I _ h => wpAny_items_nil ⟨μ, [], st, Step.refl _ _, Same.refl _, I, .nil, rfl, h⟩
theorem ses_cons {e : Expr} {es : List Expr} {m : Mine.X} {ms : Mine.Xs} (h : SE g d fi e m) (hs : SEs g d fi es ms) (he : ∀ env, starEach (e :: es) env = (false, eval e env) :: starEach es env := by k_dflt (intro _; rfl)) : SEs g d fi (e :: es) (yCons m ms) := by
  intro A env pos μ loc st s k R En I L hm
  refine wpAny_items_cons (wpAny_mono (h _ _ _ _ _ _ _ R En I L hm) (fun v s1 h1 => ?_) fun _ _ z => z) (he env)
  obtain ⟨μ1, mv, st1, S1, m1, I1, V1, h1⟩ := h1
  refine wpAny_mono (hs _ _ pos _ _ _ _ _ R En I1 (L.step S1) h1) (fun vs s2 h2 => ?_) fun _ _ z => z
  obtain ⟨μ2, mvs, st2, S2, m2, I2, V2, n2, h2⟩ := h2
  exact ⟨μ2, mv :: mvs, st2, S1.trans S2, m1.trans m2, I2, .cons (V1.step S2) V2, by simp [n2], h2⟩
theorem se_tup {es : List Expr} {k' : Nat} {pos : Pos} {ms : Mine.Xs} (hs : SEs g d fi es ms) (hl : es.length ≤ 1000) : SE g d fi (.Tuple es k' pos) (xTup ms) := by
  intro A env μ loc st s k R En I L hm
  refine PySem.wpAny_Tuple (wpAny_mono (hs _ _ pos _ _ _ _ _ R En I L hm) (fun vs s1 h1 => ?_) fun _ _ z => z)
  obtain ⟨μ1, mvs, st1, S1, m1, I1, V1, n1, h1⟩ := h1
  have h1 := alloc_of h1
  refine ⟨by rw [n1]; exact Nat.le_trans hl (by decide), ?_⟩
  obtain ⟨μ2, I2, S2, V2⟩ := I1.newTup V1 (by rw [← V1.length, n1]; exact hl)
  exact ⟨μ2, _, _, S1.trans S2, m1.trans Same.heap, I2, V2, h1⟩
theorem se_lst {es : List Expr} {pos : Pos} {ms : Mine.Xs} (hs : SEs g d fi es ms) (hl : es.length ≤ 1000) : SE g d fi (.List es pos) (xLst ms) := by
  intro A env μ loc st s k R En I L hm
  refine PySem.wpAny_List (wpAny_mono (hs _ _ pos _ _ _ _ _ R En I L hm) (fun vs s1 h1 => ?_) fun _ _ z => z)
  obtain ⟨μ1, mvs, st1, S1, m1, I1, V1, n1, h1⟩ := h1
  have h1 := alloc_of h1
  refine ⟨by rw [n1]; exact Nat.le_trans hl (by decide), ?_⟩
  obtain ⟨μ2, I2, S2, V2⟩ := I1.newLst V1 (by rw [← V1.length, n1]; exact hl)
  exact ⟨μ2, _, _, S1.trans S2, m1.trans Same.heap, I2, V2, h1⟩
end
end Mine

open PySem PySem.W PySem.Calls PyProof.Rows
set_option Elab.async false
set_option maxRecDepth 100000
namespace Mine
/-! ## expressions -/
section
variable {g : G} {d : Nat} {fi : FI} {A : Around} {env : Env} {μ : Wd} {loc : Mine.L} {st : Mine.St} {s : Shared}
theorem un {a : Expr} {ma : Mine.X} {kk : MV → Mine.St → Bool} {Q : Value → Shared → Prop} (ha : SE g d fi a ma) (R : Room d A) (En : EnvOk fi env) (I : Hp g μ st s.heap) (L : Lo g μ fi env loc s.heap)
    (hm : ma loc st kk = true) (h : ∀ v μ2 x st2 s2, Step none' μ μ2 s.heap s2.heap → Same s s2 → Hp g μ2 st2 s2.heap → Lo g μ2 fi env loc s2.heap → VR g μ2 v x → kk x st2 = true → Q v s2) :
    wpAny (model g.prog g.w) A (eval a env) Q no' s := by
  refine wpAny_mono (ha _ _ _ _ _ _ _ R En I L hm) (fun v s1 h1 => ?_) fun _ _ z => z
  obtain ⟨μ1, mv, st1, S1, m1, I1, V1, h1⟩ := h1
  exact h _ _ _ _ _ S1 m1 I1 (L.step S1) V1 h1
theorem bin {a b : Expr} {ma mb : Mine.X} {kk : MV → MV → Mine.St → Bool} {Q : Value → Value → Shared → Prop} (ha : SE g d fi a ma) (hb : SE g d fi b mb) (R : Room d A) (En : EnvOk fi env) (I : Hp g μ st s.heap) (L : Lo g μ fi env loc s.heap)
    (hm : (ma loc st fun x st => mb loc st fun y st => kk x y st) = true) (h : ∀ v1 v2 μ2 x y st2 s2, Step none' μ μ2 s.heap s2.heap → Same s s2 → Hp g μ2 st2 s2.heap → Lo g μ2 fi env loc s2.heap → VR g μ2 v1 x → VR g μ2 v2 y → kk x y st2 = true → Q v1 v2 s2) :
    wpAny (model g.prog g.w) A (eval a env) (fun v1 s1 => wpAny (model g.prog g.w) A (eval b env) (fun v2 s2 => Q v1 v2 s2) no' s1) no' s := by
  refine un ha R En I L hm fun v μ1 x st1 s1 S1 m1 I1 L1 V1 h1 => ?_
  exact un hb R En I1 L1 h1 fun v2 μ2 y st2 s2 S2 m2 I2 L2 V2 h2 => h _ _ _ _ _ _ _ (S1.trans S2) (m1.trans m2) I2 L2 (V1.step S2) V2 h2
end
section
variable {g : G} {k : Mine.K} {μ μ1 : Wd} {s s1 : Shared} {v : Value}
/-- the answer, with another count -/
theorem Ret.toks {st : Mine.St} {mv : MV} {t : Nat} (S : Step none' μ μ1 s.heap s1.heap) (m : Same s s1) (I : Hp g μ1 st s1.heap) (V : VR g μ1 v mv) (h : k mv st = true) : Ret g k μ s v { s1 with toks := t } := ⟨μ1, mv, st, S, m.trans Same.toks, I, V, h⟩
theorem Ret.here {st : Mine.St} {mv : MV} (S : Step none' μ μ1 s.heap s1.heap) (m : Same s s1) (I : Hp g μ1 st s1.heap) (V : VR g μ1 v mv) (h : k mv st = true) : Ret g k μ s v s1 := ⟨μ1, mv, st, S, m, I, V, h⟩
theorem Ret.heap {st2 : Mine.St} {mv : MV} {μ2 : Wd} {h' : Heap} (S : Step none' μ μ1 s.heap s1.heap) (m : Same s s1) (x : Hp g μ2 st2 h' ∧ Step none' μ1 μ2 s1.heap h') (V : VR g μ2 v mv) (h : k mv st2 = true) : Ret g k μ s v { s1 with heap := h' } :=
  ⟨μ2, mv, st2, S.trans x.2, m.trans Same.heap, x.1, V, h⟩
theorem Hp.sym {st : Mine.St} {h : Heap} (I : Hp g μ st h) (x : Int) : Hp g ⟨μ.ρ, μ.σ ++ [x], μ.H⟩ ⟨st.h, st.n, Nat.succ st.m, st.fs⟩ h ∧ Step none' μ ⟨μ.ρ, μ.σ ++ [x], μ.H⟩ h h ∧ ∀ t, VR g ⟨μ.ρ, μ.σ ++ [x], μ.H⟩ (.int x t) (.sym st.m) := by
  have S : Step none' μ ⟨μ.ρ, μ.σ ++ [x], μ.H⟩ h h := ⟨⟨[], by simp⟩, ⟨[x], rfl⟩, fun _ _ z => z, fun _ _ z => .inl z, fun _ _ z _ _ => z, fun b o z => ⟨o, z⟩⟩
  refine ⟨⟨I.base, I.keep, I.nρ, by simp [I.nσ], fun i mo e => ?_, I.low, I.free, I.apart, fun p hp => ?_⟩, S, fun t => ⟨x, t, ?_, rfl⟩⟩
  · obtain ⟨a, ea, q⟩ := I.obj i mo e
    exact ⟨a, ea, q.ext S.ext fun _ _ _ z => z⟩
  · obtain ⟨y, e, q⟩ := I.facts p hp
    exact ⟨y, S.ext.σ_get e, q⟩
  · rw [← I.nσ]; simp
theorem Hp.fact {st : Mine.St} {h : Heap} (I : Hp g μ st h) {i n r : Nat} {x : Int} (e : μ.σ[i]? = some x) (hn : 0 < n) (q : Int.fmod x n = (r : Int)) : Hp g μ (Mine.fact st i n r) h :=
  ⟨I.base, I.keep, I.nρ, I.nσ, I.obj, I.low, I.free, I.apart, fun p hp => by
    rcases List.mem_cons.mp hp with rfl | hp
    · exact ⟨x, e, hn, q⟩
    · exact I.facts p hp⟩
theorem findF_of {fs : List (Nat × Nat × Nat)} {i n r : Nat} (h : findF fs i n = some r) : (i, n, r) ∈ fs := by
  induction fs with
  | nil => cases h
  | cons p fs ih =>
    obtain ⟨a, b, c⟩ := p
    have h : (Bool.rec (findF fs i n) (Bool.rec (findF fs i n) (some c) (Nat.beq b n)) (Nat.beq a i) : Option Nat) = some r := h
    cases q : Nat.beq a i with
    | false => rw [q] at h; exact List.mem_cons_of_mem _ (ih h)
    | true =>
      rw [q] at h
      have q := Nat.eq_of_beq_eq_true q
      cases q2 : Nat.beq b n with
      | false => rw [q2] at h; exact List.mem_cons_of_mem _ (ih h)
      | true =>
        rw [q2] at h
        have q2 := Nat.eq_of_beq_eq_true q2
        have h : some c = some r := h
        cases h; subst q q2; exact List.mem_cons_self ..
theorem allBelow_of {n : Nat} {f : Nat → Bool} (h : allBelow n f = true) {r : Nat} (hr : r < n) : f r = true := by
  induction n with
  | zero => omega
  | succ m ih =>
    have h : (Bool.rec false (allBelow m f) (f m) : Bool) = true := h
    cases q : f m with
    | false => rw [q] at h; cases h
    | true =>
      rw [q] at h
      by_cases e : r = m
      · rw [e]; exact q
      · exact ih h (by omega)
end
section
variable {g : G} {d : Nat} {fi : FI} {a b : Expr} {pos : Pos} {ma mb : Mine.X}
theorem strV_append (x y : List Nat) : strV x ++ strV y = strV (x ++ y) := by
  show Str.mk (x.toArray ++ y.toArray) = strV (x ++ y)
  simp [strV]
theorem strV_length (x : List Nat) : (strV x).length = x.length := by simp [strV, Str.length]
theorem few_le {α : Type} {l : List α} {b : Bool} (h : few l b = true) : l.length ≤ 1000 ∧ b = true := few_of h
theorem toList_size {vs : Array Value} {l : Mine.L} {g : G} {μ : Wd} (V : All2 (VR g μ) vs.toList l) : vs.size = l.length := by have := V.length; simpa using this
theorem se_add (ha : SE g d fi a ma) (hb : SE g d fi b mb) : SE g d fi (.BinOp a .Add b pos) (xAdd ma mb) := by
  intro A env μ loc st s k R En I L hm
  refine wpAny_BinOp (bin ha hb R En I L hm fun v1 v2 μ2 x y st2 s2 S m I2 L2 V1 V2 h => ?_)
  cases x with
  | int i =>
    obtain ⟨j, rfl, h⟩ := ifInt_of h
    obtain ⟨t, rfl⟩ := V1; obtain ⟨u, rfl⟩ := V2
    exact add_int (Ret.toks S m I2 (mv := .int (addI i j)) ⟨_, by rw [addI_eq]⟩ h)
  | str i =>
    obtain ⟨j, rfl, h⟩ := ifStr_of h
    obtain ⟨⟨t, rfl⟩, l1⟩ := V1; obtain ⟨⟨u, rfl⟩, l2⟩ := V2
    obtain ⟨hl, h⟩ := few_le h
    refine add_str (fun t' tk => Ret.toks S m I2 (mv := .str (i ++ j)) ⟨⟨t', by rw [strV_append]⟩, hl⟩ h) ?_
    rw [strV_length, strV_length]; have : 2000 ≤ sizeLine := by decide
    omega
  | own i =>
    obtain ⟨j, rfl, h⟩ := ifOwn_of h
    obtain ⟨o, e1, h⟩ := withObj_of h
    obtain ⟨l, rfl, h⟩ := lstOr_of h
    obtain ⟨o, e2, h⟩ := withObj_of h
    obtain ⟨l', rfl, h⟩ := lstOr_of h
    obtain ⟨hl, h⟩ := few_le h
    have h := alloc_of h
    obtain ⟨c1, f1, rfl⟩ := V1; obtain ⟨c2, f2, rfl⟩ := V2
    obtain ⟨c, f, vs, n, hI, W1, w1⟩ := I2.obj _ _ e1
    rw [f1] at f; cases f
    obtain ⟨c, f, vs', n', hI', W2, w2⟩ := I2.obj _ _ e2
    rw [f2] at f; cases f
    refine P.add_list hI hI' ?_ (by rw [toList_size W1, toList_size W2]; have : 2000 ≤ sizeLine := by decide
                                    omega)
    obtain ⟨μ3, I3, S3, V3⟩ := I2.newLst (W1.append W2) hl
    have e : (vs.toList ++ vs'.toList).toArray = vs ++ vs' := by simp
    rw [e] at I3 S3
    exact Ret.heap S m ⟨I3, S3⟩ V3 h
  | _ => cases h
theorem se_sub (ha : SE g d fi a ma) (hb : SE g d fi b mb) : SE g d fi (.BinOp a .Sub b pos) (xSub ma mb) := by
  intro A env μ loc st s k R En I L hm
  refine wpAny_BinOp (bin ha hb R En I L hm fun v1 v2 μ2 x y st2 s2 S m I2 L2 V1 V2 h => ?_)
  obtain ⟨i, rfl, h1⟩ := ifInt_of h
  obtain ⟨j, rfl, h⟩ := ifInt_of h1
  obtain ⟨t, rfl⟩ := V1; obtain ⟨u, rfl⟩ := V2
  exact sub_int (Ret.toks S m I2 (mv := .int (subI i j)) ⟨_, by rw [subI_eq]⟩ h)
theorem posOr_of {y : MV} {f : Nat → Bool} (h : posOr y f = true) : ∃ n : Nat, y = .int (n : Int) ∧ 0 < n ∧ f n = true := by
  obtain ⟨i, rfl, h⟩ := ifInt_of h
  obtain ⟨n, rfl, h⟩ := natOr_of h
  cases n with
  | zero => cases h
  | succ n => exact ⟨_, rfl, Nat.succ_pos _, h⟩
theorem se_mod (ha : SE g d fi a ma) (hb : SE g d fi b mb) : SE g d fi (.BinOp a .Mod b pos) (xMod ma mb) := by
  intro A env μ loc st s k R En I L hm
  refine wpAny_BinOp (bin ha hb R En I L hm fun v1 v2 μ2 x y st2 s2 S m I2 L2 V1 V2 h => ?_)
  obtain ⟨n, rfl, hn, h⟩ := posOr_of h
  obtain ⟨u, rfl⟩ := V2
  cases x with
  | int i =>
    obtain ⟨j, rfl, h⟩ := natOr_of h
    obtain ⟨t, rfl⟩ := V1
    refine mod_int (by omega) (Ret.toks S m I2 (mv := .int (.ofNat (Nat.mod j n))) ⟨s2.toks, ?_⟩ h)
    rw [Int.fmod_eq_emod_of_nonneg _ (by omega)]; rfl
  | sym i =>
    obtain ⟨x, t, e, rfl⟩ := V1
    have h : (Option.rec (allBelow n fun r => k (.int (.ofNat r)) (Mine.fact st2 i n r)) (fun r => k (.int (.ofNat r)) st2) (findF st2.fs i n) : Bool) = true := h
    refine mod_int (by omega) ?_
    cases q : findF st2.fs i n with
    | none =>
      rw [q] at h
      have n0 : 0 ≤ x.fmod n := Int.fmod_nonneg_of_pos _ (by omega)
      have n1 : x.fmod n < n := Int.fmod_lt_of_pos _ (by omega)
      obtain ⟨r, hr⟩ := Int.eq_ofNat_of_zero_le n0
      have := allBelow_of h (r := r) (by omega)
      exact Ret.toks S m (I2.fact e hn hr) (mv := .int (.ofNat r)) ⟨_, by rw [hr]; rfl⟩ this
    | some r =>
      rw [q] at h
      obtain ⟨x', e', hn', f⟩ := I2.facts _ (findF_of q)
      rw [e] at e'; cases e'
      exact Ret.toks S m I2 (mv := .int (.ofNat r)) ⟨_, by rw [f]; rfl⟩ h
  | _ => cases h
theorem se_div (ha : SE g d fi a ma) (hb : SE g d fi b mb) : SE g d fi (.BinOp a .FloorDiv b pos) (xDiv ma mb) := by
  intro A env μ loc st s k R En I L hm
  refine wpAny_BinOp (bin ha hb R En I L hm fun v1 v2 μ2 x y st2 s2 S m I2 L2 V1 V2 h => ?_)
  obtain ⟨n, rfl, hn, h⟩ := posOr_of h
  obtain ⟨u, rfl⟩ := V2
  rcases bool_of h with ⟨q, h⟩ | ⟨_, h⟩
  case inr => cases h
  have hs : n < 1073741824 := Nat.lt_of_le_of_lt (Nat.le_of_ble_eq_true q) (by decide)
  cases x with
  | int i =>
    obtain ⟨j, rfl, h⟩ := natOr_of h
    obtain ⟨t, rfl⟩ := V1
    refine floordiv_int (by omega) (Ret.toks S m I2 (mv := .int (.ofNat (Nat.div j n))) ⟨s2.toks, ?_⟩ h) (.inl (PyProof.noPylong_small (by simpa using hs)))
    rw [Int.fdiv_eq_ediv_of_nonneg _ (by omega)]; rfl
  | sym i =>
    obtain ⟨x, t, e, rfl⟩ := V1
    obtain ⟨I3, S3, V3⟩ := I2.sym (x.fdiv n)
    refine floordiv_int (by omega) ⟨_, .sym st2.m, _, S.trans S3, m.trans Same.toks, I3, V3 _, h⟩ (.inl (PyProof.noPylong_small (by simpa using hs)))
  | _ => cases h
theorem se_pow (ha : SE g d fi a ma) (hb : SE g d fi b mb) : SE g d fi (.BinOp a .Pow b pos) (xPow ma mb) := by
  intro A env μ loc st s k R En I L hm
  refine wpAny_BinOp (bin ha hb R En I L hm fun v1 v2 μ2 x y st2 s2 S m I2 L2 V1 V2 h => ?_)
  obtain ⟨x, rfl, h1⟩ := ifInt_of h
  obtain ⟨x, rfl, h2⟩ := natOr_of h1
  obtain ⟨y, rfl, h3⟩ := ifInt_of h2
  obtain ⟨y, rfl, h4⟩ := natOr_of h3
  clear h h1 h2 h3
  rcases bool_of h4 with ⟨q, h⟩ | ⟨_, h⟩
  case inr => cases h
  rcases bool_of h with ⟨q', h⟩ | ⟨_, h⟩
  case inr => cases h
  obtain rfl := Nat.eq_of_beq_eq_true q
  have hs := Nat.le_of_ble_eq_true q'
  obtain ⟨t, rfl⟩ := V1; obtain ⟨u, rfl⟩ := V2
  refine pow_int (by omega) ?_ (Ret.toks S m I2 (mv := .int (.ofNat (Nat.pow 2 y))) ⟨s2.toks, ?_⟩ h)
  · have : Builtin.Int.intBits ((2 : Nat) : Int) = 2 := by decide +kernel
    rw [this]
    have : ((2 : Nat) : Int) * y ≤ 2000 := by omega
    exact Int.le_trans this (by decide)
  · show Value.int (((2 : Nat) : Int) ^ (y : Int).toNat) _ = Value.int (Int.ofNat (2 ^ y)) _
    rw [Int.toNat_natCast, ← Int.natCast_pow]; rfl
theorem rep_flatten (x : List Nat) : ∀ n : Nat, ∀ acc : Array Nat, List.foldl (fun x1 x2 => x1 ++ x2) acc (List.replicate n x.toArray) = acc ++ (List.replicate n x).flatten.toArray
  | 0, acc => by simp
  | n + 1, acc => by
    rw [List.replicate_succ, List.foldl_cons, rep_flatten x n, List.replicate_succ]
    simp
theorem se_mul (ha : SE g d fi a ma) (hb : SE g d fi b mb) : SE g d fi (.BinOp a .Mult b pos) (xMul ma mb) := by
  intro A env μ loc st s k R En I L hm
  refine wpAny_BinOp (bin ha hb R En I L hm fun v1 v2 μ2 x y st2 s2 S m I2 L2 V1 V2 h => ?_)
  obtain ⟨x, rfl, h1⟩ := ifStr_of h
  obtain ⟨y, rfl, h2⟩ := ifInt_of h1
  obtain ⟨y, rfl, h3⟩ := natOr_of h2
  clear h h1 h2
  rcases bool_of h3 with ⟨q, h3⟩ | ⟨_, h⟩
  case inr => cases h
  have hy := Nat.le_of_ble_eq_true q
  obtain ⟨hl, h⟩ := few_le h3
  obtain ⟨⟨t, rfl⟩, hx⟩ := V1; obtain ⟨u, rfl⟩ := V2
  have key : ∀ t' : Tok, ∀ tk, Ret g k μ s (.str (strV (List.replicate y x).flatten) t') { s2 with toks := tk } := fun t' tk => Ret.toks S m I2 (mv := .str (List.replicate y x).flatten) ⟨⟨_, rfl⟩, hl⟩ h
  have hl' : y * x.length ≤ 1000 := by simpa using hl
  have e1 : (strV x).length * (y : Int).toNat ≤ 1000 := by rw [strV_length, Int.toNat_natCast, Nat.mul_comm]; exact hl'
  refine P.mul_str ?_ (fun a _ => ?_) (fun a _ => ?_) ?_
  · simp; omega
  · have h0 : (0 : Int) < y := by omega
    have : ((strV x).length : Int) * y ≤ 2 ^ 63 - 1 := by
      have e2 : ((strV x).length : Int) * y ≤ 1000 := by
        have := Int.ofNat_le.mpr e1
        simpa using this
      exact Int.le_trans e2 (by decide)
    have := Int.le_ediv_of_mul_le h0 this
    omega
  · exact decide_eq_false (by have : 1000 ≤ sizeLine := by decide
                              show ¬ (_ > _); omega)
  · split
    · have e : y = 0 := by omega
      subst e
      exact ⟨by decide, key _ _⟩
    · split
      · rename_i h1 h2
        have e : (List.replicate y x).flatten = x := by
          simp only [Bool.or_eq_true, beq_iff_eq] at h2
          rcases h2 with h2 | h2
          · have : y = 1 := by omega
            subst this; simp
          · rw [strV_length] at h2
            have := List.length_eq_zero_iff.mp h2
            subst this; simp
        rw [e] at key
        exact key t s2.toks
      · have e : (List.replicate (y : Int).toNat (strV x).cps).foldl (· ++ ·) #[] = (List.replicate y x).flatten.toArray := by
          rw [Int.toNat_natCast]
          exact (rep_flatten x y #[]).trans (by simp)
        rw [e]
        refine ⟨?_, key _ _⟩
        show (strV _).length ≤ _
        rw [strV_length]
        exact Nat.le_trans hl (by decide)
end
end Mine

open PySem PySem.W PySem.Calls PyProof.Rows
set_option Elab.async false
set_option maxRecDepth 100000
namespace Mine
/-! ## slices -/
section
open Builtin.Str
theorem mslice (l : List Nat) (a b : Nat) : Txt.slice (strV l) (some (a : Int)) (some (b : Int)) = strV (sliceN l a b) := by
  have hn : (strV l).length = l.length := strV_length l
  have key : (strSliceIndices (some (a : Int)) (some (b : Int)) 1 (strV l).length).filterMap ((strV l).cps[·]?) = (l.drop a).take (b - a) := by
    rw [hn]
    by_cases h : min a l.length ≤ min b l.length
    · have e : strSliceIndices (some (a : Int)) (some (b : Int)) 1 l.length = strSliceIndices (some ((min a l.length : Nat) : Int)) (some ((min b l.length : Nat) : Int)) 1 l.length := by
        unfold strSliceIndices
        have h1 : ¬ ((a : Int) < 0) := by omega
        have h2 : ¬ ((b : Int) < 0) := by omega
        have h3 : ¬ (((min a l.length : Nat) : Int) < 0) := by omega
        have h4 : ¬ (((min b l.length : Nat) : Int) < 0) := by omega
        simp only [h1, h2, h3, h4, if_false, show ((1 : Int) > 0) = True from by simp, if_true]
        congr 1 <;> omega
      rw [e]
      have := StrLaws.sliced_plain (strV l) h (by rw [hn]; omega)
      rw [hn] at this
      rw [this]
      show (l.drop _).take _ = _
      rcases Nat.le_total a l.length with ha | ha
      · rw [Nat.min_eq_left ha]
        rcases Nat.le_total b l.length with hb | hb
        · rw [Nat.min_eq_left hb]
        · rw [Nat.min_eq_right hb, List.take_of_length_le (by simp), List.take_of_length_le (by simp; omega)]
      · rw [Nat.min_eq_right ha, List.drop_of_length_le (Nat.le_refl _), List.drop_of_length_le ha]; simp
    · have e : strSliceIndices (some (a : Int)) (some (b : Int)) 1 l.length = [] := by
        unfold strSliceIndices sliceRange
        have h1 : ¬ ((a : Int) < 0) := by omega
        have h2 : ¬ ((b : Int) < 0) := by omega
        have h3 : ¬ (max 0 (min (a : Int) l.length) < max 0 (min (b : Int) l.length)) := by omega
        simp [h1, h2, h3]
      rw [e]
      have : b - a = 0 := by omega
      simp [this]
  unfold Txt.slice
  split
  · rename_i h
    have e : (strSliceIndices (some (a : Int)) (some (b : Int)) 1 (strV l).length).length = (strV l).length := by simpa using h
    have z : (l.drop a).take (b - a) = l := by
      have hh : (strSliceIndices (some (a : Int)) (some (b : Int)) 1 (strV l).length) = List.range l.length := by
        rw [hn] at e ⊢
        unfold strSliceIndices sliceRange at e ⊢
        have h1 : ¬ ((a : Int) < 0) := by omega
        have h2 : ¬ ((b : Int) < 0) := by omega
        simp only [h1, h2, if_false, show ((1 : Int) > 0) = True from by simp, if_true, List.length_map, List.length_range] at e ⊢
        split at e
        · rename_i hlt
          have ea : max 0 (min (a : Int) l.length) = 0 ∨ l.length = 0 := by omega
          rw [if_pos hlt]
          rcases ea with ea | ea
          · rw [ea] at e ⊢
            rw [show ((max 0 (min (b : Int) l.length) - 0 + 1 - 1) / 1).toNat = l.length from e]
            conv => rhs; rw [← List.map_id (List.range l.length)]
            refine List.map_congr_left fun k _ => ?_
            show (0 + 1 * (k : Int)).toNat = k
            omega
          · omega
        · have : l.length = 0 := by simpa using e.symm
          simp [this]; omega
      rw [← key, hh]
      show (List.range l.length).filterMap (l.toArray[·]?) = l
      have := StrLaws.picks l l.length 0 (by omega)
      simpa using this
    show strV l = strV _
    unfold sliceN
    rw [z]
  · rw [key]; rfl
theorem mslice_to (l : List Nat) (b : Nat) : Txt.slice (strV l) none (some (b : Int)) = strV (l.take b) := by
  have := mslice l 0 b
  unfold sliceN at this
  rw [List.drop_zero, Nat.sub_zero] at this
  rw [← this]
  unfold Txt.slice
  have e : strSliceIndices none (some (b : Int)) 1 (strV l).length = strSliceIndices (some ((0 : Nat) : Int)) (some (b : Int)) 1 (strV l).length := by
    unfold strSliceIndices
    have : max 0 (min (0 : Int) (strV l).length) = 0 := by omega
    simp [this]
  rw [e]
theorem mslice_from (l : List Nat) (a : Nat) : Txt.slice (strV l) (some (a : Int)) none = strV (l.drop a) := by
  have := mslice l a l.length
  unfold sliceN at this
  rw [List.take_of_length_le (by simp)] at this
  rw [← this]
  unfold Txt.slice
  have e : strSliceIndices (some (a : Int)) none 1 (strV l).length = strSliceIndices (some (a : Int)) (some (l.length : Int)) 1 (strV l).length := by
    rw [strV_length]
    unfold strSliceIndices
    have h2 : ¬ ((l.length : Int) < 0) := by omega
    simp [h2]
  rw [e]
theorem pick_back2 (items : Array Value) : slicePick items (some (-2)) none (some (-1)) = (items.toList.reverse.drop 1).toArray := by
  have hb : sliceBounds (some (-2)) none (some (-1)) items.size = (((items.size - 1 : Nat) : Int) - 1, -1, -1) := by
    unfold sliceBounds
    simp
    omega
  unfold slicePick
  rw [hb, krv_sliceRange, krv_range, List.filterMap_reverse]
  have h := StrLaws.picks items.toList (items.size - 1) 0 (by simp)
  have e : (List.range (items.size - 1)).map (fun k => 0 + k) = List.range (items.size - 1) := by simp
  rw [e, List.drop_zero] at h
  have h2 : (List.range (items.size - 1)).filterMap (items[·]?) = items.toList.take (items.size - 1) := by rw [← h]; congr 1; funext i; simp
  rw [h2]
  congr 1
  rw [List.drop_reverse]
  simp
end
theorem fits {n : Nat} (h : n ≤ 1000) : n ≤ sizeLine := Nat.le_trans h (by decide)
theorem sub_of (slice : Expr) (o i : Value) : ∃ ops, subscripted slice false o i = operate ops (getItem o i) := by
  unfold subscripted
  split
  · exact ⟨_, rfl⟩
  · contradiction
  · exact ⟨_, rfl⟩
section
variable {g : G} {μ : Wd} {st : Mine.St} {h : Heap}
/-- an object of no name -/
theorem Hp.junk (I : Hp g μ st h) (o : Obj) : Hp g μ st (h.push o) ∧ Step none' μ μ h (h.push o) :=
  ⟨I.other fun _ _ e _ => Heap.get?_push_of_some _ e, ⟨⟨[], by simp⟩, ⟨[], by simp⟩, fun _ _ z => z, fun _ _ z => .inl z, fun _ _ z _ _ => Heap.get?_push_of_some _ z, fun _ o z => ⟨o, Heap.get?_push_of_some _ z⟩⟩⟩
theorem Hp.got (I : Hp g μ st h) {i : Nat} {v : Value} {mo : MO} (V : VR g μ v (.own i)) (e : st.h.get i = some mo) : ∃ a, μ.ρ[i]? = some a ∧ v = .ref a.1 ∧ ObjIs g μ h a mo := by
  obtain ⟨a, f, rfl⟩ := V
  obtain ⟨b, f', q⟩ := I.obj _ _ e
  rw [f] at f'; cases f'
  exact ⟨a, f, rfl, q⟩
theorem Hp.lst (I : Hp g μ st h) {i : Nat} {v : Value} {l : Mine.L} (V : VR g μ v (.own i)) (e : st.h.get i = some (.lst l)) : ∃ a vs n, μ.ρ[i]? = some a ∧ v = .ref a.1 ∧ IsL h a.1 vs n ∧ All2 (VR g μ) vs.toList l ∧ vs.size = l.length ∧ l.length ≤ 1000 := by
  obtain ⟨a, f, rfl, vs, n, q, W, w⟩ := I.got V e
  exact ⟨a, vs, n, f, rfl, q, W, toList_size W, w⟩
theorem Hp.tup (I : Hp g μ st h) {i : Nat} {v : Value} {l : Mine.L} (V : VR g μ v (.own i)) (e : st.h.get i = some (.tup l)) : ∃ a vs, μ.ρ[i]? = some a ∧ v = .ref a.1 ∧ IsTup h a.1 vs ∧ All2 (VR g μ) vs.toList l ∧ vs.size = l.length ∧ l.length ≤ 1000 := by
  obtain ⟨a, f, rfl, vs, q, W, w⟩ := I.got V e
  exact ⟨a, vs, f, rfl, q, W, toList_size W, w⟩
theorem got_item {vs : Array Value} {l : Mine.L} (W : All2 (VR g μ) vs.toList l) {j : Nat} (h : lget l j ≠ .unb) : ∃ v, vs[j]? = some v ∧ VR g μ v (lget l j) ∧ j < l.length := by
  have e := lget_some h
  obtain ⟨v, e', q⟩ := W.get e
  exact ⟨v, by simpa using e', q, (List.getElem?_eq_some_iff.mp e).1⟩
end
section
variable {g : G} {d : Nat} {fi : FI} {o i : Expr} {pos : Pos} {mo mi : Mine.X}
theorem LitR.VR {μ : Wd} {v : Value} {m : MV} (h : LitR v m) : VR g μ v m := by cases m <;> first | exact h | cases h
theorem se_idx (ho : SE g d fi o mo) (hi : SE g d fi i mi) : SE g d fi (.Subscript o i pos) (xIdx g.code mo mi) := by
  intro A env μ loc st s k R En I L hm
  refine Subscript_ (bin ho hi R En I L hm fun v1 v2 μ2 x y st2 s2 S m I2 L2 V1 V2 h => ?_)
  obtain ⟨j, rfl, h1⟩ := ifInt_of h
  obtain ⟨j, rfl, h2⟩ := natOr_of h1
  clear h h1
  obtain ⟨u, rfl⟩ := V2
  obtain ⟨ops, hs⟩ := sub_of i v1 (.int j u)
  cases x with
  | str l =>
    obtain ⟨⟨t, rfl⟩, hl⟩ := V1
    have h2 : (List.rec false (fun c _ _ => k (.str [c]) st2) (l.drop j) : Bool) = true := h2
    cases q : l.drop j with
    | nil => rw [q] at h2; cases h2
    | cons c r =>
      rw [q] at h2
      have hc : l[j]? = some c := by
        have := congrArg List.head? q
        simpa [List.head?_drop] using this
      have hj : j < l.length := (List.getElem?_eq_some_iff.mp hc).1
      refine tail_any (typeIs_str _ _ _) PySem.F.slot_str_getitem.lookup (getItem_str ?_ ?_ (Ret.toks S m I2 (mv := .str [c]) ⟨⟨s2.toks, rfl⟩, by simp⟩ h2)) hs
      · simp; omega
      · have : seqIndex? (j : Int) (strV l).length = some j := by
          unfold seqIndex?
          rw [strV_length]
          have h1 : ¬ ((j : Int) < 0) := by omega
          simp [h1, hj]
        rw [this]
        simpa [strV] using hc
  | own i' =>
    obtain ⟨ob, e, h3⟩ := withObj_of h2
    cases ob with
    | tup l =>
      obtain ⟨ne, h4⟩ := okK_of h3
      obtain ⟨a, vs, f, rfl, hT, W, sz, le⟩ := I2.tup V1 e
      obtain ⟨v, hv, Vv, hj⟩ := got_item W ne
      refine tail_any ⟨_, hT.choose_spec.1, hT.choose_spec.2.1⟩ PySem.F.slot_tuple_getitem.lookup (getItem_tuple hT (j := j) (by omega) (by omega) ?_ hv (Ret.here S m I2 Vv h4)) hs
      unfold seqIndex?
      have h1 : ¬ ((j : Int) < 0) := by omega
      simp [h1, sz, hj]
    | lst l =>
      obtain ⟨ne, h4⟩ := okK_of h3
      obtain ⟨a, vs, n, f, rfl, hT, W, sz, le⟩ := I2.lst V1 e
      obtain ⟨v, hv, Vv, hj⟩ := got_item W ne
      exact tail_any ⟨_, hT, rfl⟩ PySem.F.slot_list_getitem.lookup (wpAny_getItem_list hT.isList (by omega) (by omega) (by simpa using hv) (Ret.here S m I2 Vv h4)) hs
    | _ => cases h3
  | code =>
    obtain ⟨a, rfl, ob, n, vs, e, e1, e2, sz, hc⟩ := V1
    have h2 : (Option.rec false (fun _ => k (.ord j) st2) (g.code.get j) : Bool) = true := h2
    cases q : g.code.get j with
    | none => rw [q] at h2; cases h2
    | some row =>
      rw [q] at h2
      obtain ⟨b, hb, hr⟩ := hc j row q
      have hj : j < vs.size := by have := (List.getElem?_eq_some_iff.mp hb).1; simpa using this
      have hL : s2.heap.IsList a vs := ⟨ob, I2.keep _ _ e, e1, n, e2⟩
      exact tail_any hL.typeIs PySem.F.slot_list_getitem.lookup (wpAny_getItem_list hL (by omega) (by omega) (by simpa using hb) (Ret.here S m I2 (mv := .ord j) ⟨b, row, rfl, q, hr⟩ h2)) hs
  | ord p =>
    obtain ⟨a, row, rfl, q, ob, n, vs, e, e1, e2, W⟩ := V1
    have h2 : (Option.rec false (fun l => Bool.rec false (okK (lget l j) fun v => k v st2) (Nat.ble j 1000)) (g.code.get p) : Bool) = true := h2
    rw [q] at h2
    rcases bool_of h2 with ⟨hj, h3⟩ | ⟨_, h3⟩
    case inr => cases h3
    have hj := Nat.le_of_ble_eq_true hj
    obtain ⟨ne, h4⟩ := okK_of h3
    obtain ⟨v, hv, Vv, hj'⟩ := got_item (W.mono fun _ _ z => LitR.VR (g := g) (μ := μ2) z) ne
    have hT : IsTup s2.heap a vs := ⟨ob, I2.keep _ _ e, e1, n, e2⟩
    have sz : vs.size = row.length := by have := W.length; simpa using this
    refine tail_any ⟨_, I2.keep _ _ e, e1⟩ PySem.F.slot_tuple_getitem.lookup (getItem_tuple hT (j := j) (by omega) (by omega) ?_ hv (Ret.here S m I2 Vv h4)) hs
    unfold seqIndex?
    have h1 : ¬ ((j : Int) < 0) := by omega
    simp [h1, sz, hj']
  | scr m' =>
    obtain ⟨a, rfl, ob, n, vs, e, e1, e2, sz, e3, e4⟩ := V1
    have h2 : (Bool.rec false (k (.sym j) st2) (Nat.blt j m') : Bool) = true := h2
    rcases bool_of h2 with ⟨hj, h3⟩ | ⟨_, h3⟩
    case inr => cases h3
    have hj := Nat.le_of_ble_eq_true hj
    obtain ⟨x, t, x1, x2⟩ := e4 j hj
    have hL : s2.heap.IsList a vs := ⟨ob, I2.keep _ _ e, e1, n, e2⟩
    have jl : j < 4 := by rw [← e3] at hj; simp at hj; omega
    exact tail_any hL.typeIs PySem.F.slot_list_getitem.lookup (wpAny_getItem_list hL (by omega) (by omega) (by simpa using x1) (Ret.here S m I2 (mv := .sym j) ⟨x, t, x2, rfl⟩ h3)) hs
  | _ => cases h2
theorem se_neg {n : Int} {k' : Nat} {p : Pos} : SE g d fi (.UnaryOp .USub (.Constant (.int n) k' p) pos) (xLit (.int (-n))) := fun _ _ _ _ _ _ _ _ _ I _ h =>
  wpAny_UnaryOp (wpAny_Constant_int (neg_int (Ret.toks (Step.refl _ _) Same.toks I (mv := .int (-n)) ⟨_, rfl⟩ h)))
theorem se_last (ho : SE g d fi o mo) {k' : Nat} {p p' : Pos} : SE g d fi (.Subscript o (.UnaryOp .USub (.Constant (.int 1) k' p) p') pos) (xLast mo) := by
  intro A env μ loc st s k R En I L hm
  refine Subscript_ (un ho R En I L hm fun v1 μ2 x st2 s2 S m I2 L2 V1 h => ?_)
  refine wpAny_UnaryOp (wpAny_Constant_int (neg_int ?_))
  obtain ⟨i', l, rfl, e, h1⟩ := onLst_of h
  obtain ⟨a, vs, n, f, rfl, hT, W, sz, le⟩ := I2.lst V1 e
  have h1 : (List.rec false (fun v _ _ => okK v fun v => k v st2) l.reverse : Bool) = true := h1
  cases q : l.reverse with
  | nil => rw [q] at h1; cases h1
  | cons mv r =>
    rw [q] at h1
    obtain ⟨ne, h2⟩ := okK_of h1
    have hl : l = r.reverse ++ [mv] := by rw [← List.reverse_reverse l, q]; simp
    have hlen : l.length = r.length + 1 := by rw [hl]; simp
    have eg : l[r.length]? = some mv := by rw [hl]; simp
    obtain ⟨v, hv, Vv⟩ := W.get eg
    obtain ⟨ops, hs⟩ := sub_of (.UnaryOp .USub (.Constant (.int 1) k' p) p') (.ref a.1) (.int (-1) (s2.toks + 1))
    refine tail_any ⟨_, hT, rfl⟩ PySem.F.slot_list_getitem.lookup (wpAny_getItem_list_neg (x := v) (items := vs) hT.isList (by omega) (by omega) (by omega) ?_ ?_) hs
    · have : (-1 + (vs.size : Int)).toNat = r.length := by omega
      rw [this]; simpa using hv
    · exact Ret.here S (m.trans Same.toks) I2 Vv h2
theorem se_slc {a b : Expr} {ma mb : Mine.X} {p : Pos} (ho : SE g d fi o mo) (ha : SE g d fi a ma) (hb : SE g d fi b mb) : SE g d fi (.Subscript o (.Slice (some a) (some b) none p) pos) (xSlc mo ma mb) := by
  intro A env μ loc st s k R En I L hm
  refine Subscript_ (un ho R En I L hm fun v1 μ2 x st2 s2 S m I2 L2 V1 h => ?_)
  refine wpAny_Slice (wpAny_evalPart_some (un ha R En I2 L2 h fun v2 μ3 y st3 s3 S3 m3 I3 L3 V2 h3 => ?_))
  refine wpAny_evalPart_some (un hb R En I3 L3 h3 fun v4 μ4 z st4 s4 S4 m4 I4 L4 V4 h4 => wpAny_evalPart_none ?_)
  obtain ⟨l, rfl, h5⟩ := ifStr_of h4
  obtain ⟨y, rfl, h6⟩ := natV_of h5
  obtain ⟨z, rfl, h7⟩ := natV_of h6
  obtain ⟨⟨t, rfl⟩, hl⟩ := V1
  obtain ⟨t2, rfl⟩ := V2
  obtain ⟨t4, rfl⟩ := V4
  obtain ⟨ops, hs⟩ := sub_of (.Slice (some a) (some b) none p) (.str (strV l) t) (.ref s4.heap.objs.size)
  obtain ⟨I5, S5⟩ := I4.junk { cls := .type "slice", data := .fields #[.int y t2, .int z t4, .none] }
  refine tail_any (typeIs_str _ _ _) PySem.F.slot_str_getitem.lookup (wpAny_getItem_str_slice (l := some ((y : Int), t2)) (u := some ((z : Int), t4)) (st := none) ⟨_, Heap.get?_push_size _ rfl, rfl, rfl⟩ rfl (post_val_or_str ⟨Nat.le_trans (Txt.slice_le (strV l) (some (y : Int)) (some (z : Int))) (by rw [strV_length]; exact Nat.le_trans hl (by decide)), fun t' tk => ?_⟩)) hs
  refine ⟨_, .str (sliceN l y z), st4, ((S.trans S3).trans S4).trans S5, ((m.trans m3).trans m4).trans Same.mk', I5, ⟨⟨t', ?_⟩, ?_⟩, h7⟩
  · exact congrArg (Value.str · t') (mslice l y z)
  · exact Nat.le_trans (by simp [sliceN]; omega) hl
theorem symsTo_eq (j : Nat) : symsTo j = (List.range j).map MV.sym := by
  induction j with
  | zero => rfl
  | succ n ih => rw [List.range_succ, List.map_append, ← ih]; rfl
theorem All2.of_get {α β : Type} {R : α → β → Prop} : ∀ {l : List α} {m : List β}, l.length = m.length → (∀ (i : Nat) (b : β), m[i]? = some b → ∃ a, l[i]? = some a ∧ R a b) → All2 R l m
  | [], [], _, _ => .nil
  | a :: l, b :: m, h, q => by
    refine .cons ?_ (All2.of_get (by simpa using h) fun i b hb => ?_)
    · obtain ⟨a', e, r⟩ := q 0 b rfl; cases e; exact r
    · obtain ⟨a', e, r⟩ := q (i + 1) b hb; exact ⟨a', e, r⟩
theorem se_hi {b : Expr} {mb : Mine.X} {p : Pos} (ho : SE g d fi o mo) (hb : SE g d fi b mb) : SE g d fi (.Subscript o (.Slice none (some b) none p) pos) (xHi mo mb) := by
  intro A env μ loc st s k R En I L hm
  refine Subscript_ (un ho R En I L hm fun v1 μ2 x st2 s2 S m I2 L2 V1 h => ?_)
  refine wpAny_Slice (wpAny_evalPart_none (wpAny_evalPart_some (un hb R En I2 L2 h fun v4 μ4 z st4 s4 S4 m4 I4 L4 V4 h4 => wpAny_evalPart_none ?_)))
  obtain ⟨z, rfl, h7⟩ := natV_of h4
  obtain ⟨t4, rfl⟩ := V4
  obtain ⟨I5, S5⟩ := I4.junk { cls := .type "slice", data := .fields #[.none, .int z t4, .none] }
  obtain ⟨ops, hs⟩ := sub_of (.Slice none (some b) none p) v1 (.ref s4.heap.objs.size)
  have S' := (S.trans S4).trans S5
  have V1 := (V1.step S4).step S5
  have isS : (s4.heap.push { cls := Value.type "slice", data := Data.fields #[.none, .int z t4, .none] }).IsSliceOf s4.heap.objs.size .none (.int z t4) .none := ⟨_, Heap.get?_push_size _ rfl, rfl, rfl⟩
  cases x with
  | str l =>
    obtain ⟨⟨t, rfl⟩, hl⟩ := V1
    refine tail_any (typeIs_str _ _ _) PySem.F.slot_str_getitem.lookup (wpAny_getItem_str_slice (l := none) (u := some ((z : Int), t4)) (st := none) ⟨_, Heap.get?_push_size _ rfl, rfl, rfl⟩ rfl (post_val_or_str ⟨Nat.le_trans (Txt.slice_le (strV l) none (some (z : Int))) (by rw [strV_length]; exact Nat.le_trans hl (by decide)), fun t' tk => ?_⟩)) hs
    refine ⟨_, .str (l.take z), st4, S', (m.trans m4).trans Same.mk', I5, ⟨⟨t', ?_⟩, ?_⟩, h7⟩
    · exact congrArg (Value.str · t') (mslice_to l z)
    · exact Nat.le_trans (by simp; omega) hl
  | own i' =>
    obtain ⟨ob, e, h8⟩ := withObj_of h7
    obtain ⟨l, rfl, h9⟩ := lstOr_of h8
    have h9 := alloc_of h9
    obtain ⟨a, vs, n, f, rfl, hT, W, sz, le⟩ := I5.lst V1 e
    refine tail_any ⟨_, hT, rfl⟩ PySem.F.slot_list_getitem.lookup (wpAny_getItem_list_slice hT.isList isS .none (.int z t4) .none (by simp) ?_ (fits (by omega))) hs
    rw [slicePick_upto']
    obtain ⟨μ6, I6, S6, V6⟩ := I5.newLst (W.take z) (Nat.le_trans (by simp; omega) le)
    exact ⟨μ6, _, _, S'.trans S6, (m.trans m4).trans (Same.heap.trans Same.heap), I6, V6, h9⟩
  | scr j =>
    obtain ⟨a, rfl, ob, n, vs, e, e1, e2, sz, e3, e4⟩ := V1
    have h7 : (Bool.rec false (alloc (.lst (symsTo j)) st4 k) (Nat.beq z 4) : Bool) = true := h7
    rcases bool_of h7 with ⟨hz, h9⟩ | ⟨_, h9⟩
    case inr => cases h9
    obtain rfl := Nat.eq_of_beq_eq_true hz
    have h9 := alloc_of h9
    have hL : (s4.heap.push { cls := Value.type "slice", data := Data.fields #[.none, .int ((4 : Nat) : Int) t4, .none] }).IsList a vs := ⟨ob, I5.keep _ _ e, e1, n, e2⟩
    refine tail_any hL.typeIs PySem.F.slot_list_getitem.lookup (wpAny_getItem_list_slice hL isS .none (.int _ t4) .none (by simp) ?_ (Nat.le_trans sz (by decide))) hs
    rw [slicePick_upto']
    have jl : j ≤ 4 := by rw [← e3]; simp; omega
    have W : All2 (VR g μ4) (vs.toList.take 4) (symsTo j) := by
      refine All2.of_get (by rw [e3, symsTo_eq]; simp) fun i b hb => ?_
      rw [symsTo_eq] at hb
      have hi : i < j := by have := (List.getElem?_eq_some_iff.mp hb).1; simpa using this
      obtain ⟨x, t, x1, x2⟩ := e4 i hi
      have : b = .sym i := by simp [hi] at hb; exact hb.symm
      subst this
      exact ⟨.int x t, by rw [List.getElem?_take_of_lt (by omega)]; exact x1, x, t, x2, rfl⟩
    obtain ⟨μ6, I6, S6, V6⟩ := I5.newLst W (by rw [symsTo_eq]; simp; omega)
    exact ⟨μ6, _, _, S'.trans S6, (m.trans m4).trans (Same.heap.trans Same.heap), I6, V6, h9⟩
  | _ => cases h7
theorem se_lo {b : Expr} {mb : Mine.X} {p : Pos} (ho : SE g d fi o mo) (hb : SE g d fi b mb) : SE g d fi (.Subscript o (.Slice (some b) none none p) pos) (xLo mo mb) := by
  intro A env μ loc st s k R En I L hm
  refine Subscript_ (un ho R En I L hm fun v1 μ2 x st2 s2 S m I2 L2 V1 h => ?_)
  refine wpAny_Slice (wpAny_evalPart_some (un hb R En I2 L2 h fun v4 μ4 z st4 s4 S4 m4 I4 L4 V4 h4 => wpAny_evalPart_none (wpAny_evalPart_none ?_)))
  obtain ⟨z, rfl, h7⟩ := natV_of h4
  obtain ⟨t4, rfl⟩ := V4
  obtain ⟨I5, S5⟩ := I4.junk { cls := .type "slice", data := .fields #[.int z t4, .none, .none] }
  obtain ⟨ops, hs⟩ := sub_of (.Slice (some b) none none p) v1 (.ref s4.heap.objs.size)
  have S' := (S.trans S4).trans S5
  have V1 := (V1.step S4).step S5
  have isS : (s4.heap.push { cls := Value.type "slice", data := Data.fields #[.int z t4, .none, .none] }).IsSliceOf s4.heap.objs.size (.int z t4) .none .none := ⟨_, Heap.get?_push_size _ rfl, rfl, rfl⟩
  cases x with
  | str l =>
    obtain ⟨⟨t, rfl⟩, hl⟩ := V1
    refine tail_any (typeIs_str _ _ _) PySem.F.slot_str_getitem.lookup (wpAny_getItem_str_slice (l := some ((z : Int), t4)) (u := none) (st := none) ⟨_, Heap.get?_push_size _ rfl, rfl, rfl⟩ rfl (post_val_or_str ⟨Nat.le_trans (Txt.slice_le (strV l) (some (z : Int)) none) (by rw [strV_length]; exact Nat.le_trans hl (by decide)), fun t' tk => ?_⟩)) hs
    refine ⟨_, .str (l.drop z), st4, S', (m.trans m4).trans Same.mk', I5, ⟨⟨t', ?_⟩, ?_⟩, h7⟩
    · exact congrArg (Value.str · t') (mslice_from l z)
    · exact Nat.le_trans (by simp) hl
  | own i' =>
    obtain ⟨ob, e, h8⟩ := withObj_of h7
    obtain ⟨l, rfl, h9⟩ := lstOr_of h8
    have h9 := alloc_of h9
    obtain ⟨a, vs, n, f, rfl, hT, W, sz, le⟩ := I5.lst V1 e
    refine tail_any ⟨_, hT, rfl⟩ PySem.F.slot_list_getitem.lookup (wpAny_getItem_list_slice hT.isList isS (.int z t4) .none .none (by simp) ?_ (fits (by omega))) hs
    rw [slicePick_from']
    obtain ⟨μ6, I6, S6, V6⟩ := I5.newLst (W.drop z) (Nat.le_trans (by simp) le)
    exact ⟨μ6, _, _, S'.trans S6, (m.trans m4).trans (Same.heap.trans Same.heap), I6, V6, h9⟩
  | _ => cases h7
theorem part_neg {A : Around} {env : Env} {s : Shared} {n : Int} {k' : Nat} {p p' : Pos} {Q : Value → Shared → Prop} {E : Value → Shared → Prop} (h : ∀ t tk, Q (.int (-n) t) { s with toks := tk }) :
    wpAny (model g.prog g.w) A (evalPart (some (.UnaryOp .USub (.Constant (.int n) k' p) p')) env) Q E s := wpAny_evalPart_some (wpAny_UnaryOp (wpAny_Constant_int (neg_int (h _ _))))
theorem se_back {k' : Nat} {p p' p'' : Pos} (ho : SE g d fi o mo) : SE g d fi (.Subscript o (.Slice none none (some (.UnaryOp .USub (.Constant (.int 1) k' p) p')) p'') pos) (xBack mo) := by
  intro A env μ loc st s k R En I L hm
  refine Subscript_ (un ho R En I L hm fun v1 μ2 x st2 s2 S m I2 L2 V1 h => ?_)
  refine wpAny_Slice (wpAny_evalPart_none (wpAny_evalPart_none (part_neg fun t tk => ?_)))
  obtain ⟨i', l, rfl, e, h9⟩ := onLst_of h
  have h9 := alloc_of h9
  obtain ⟨I5, S5⟩ := I2.junk { cls := .type "slice", data := .fields #[.none, .none, .int (-1) t] }
  obtain ⟨ops, hs⟩ := sub_of (.Slice none none (some (.UnaryOp .USub (.Constant (.int 1) k' p) p')) p'') v1 (.ref s2.heap.objs.size)
  have V1 := V1.step S5
  obtain ⟨a, vs, n, f, rfl, hT, W, sz, le⟩ := I5.lst V1 e
  refine tail_any ⟨_, hT, rfl⟩ PySem.F.slot_list_getitem.lookup (wpAny_getItem_list_slice (s := { s2 with heap := s2.heap.push _, toks := tk }) hT.isList ⟨_, Heap.get?_push_size _ rfl, rfl, rfl⟩ .none .none (.int (-1) t) (by simp) ?_ (fits (by omega))) hs
  rw [krv_pick]
  obtain ⟨μ6, I6, S6, V6⟩ := I5.newLst W.reverse (by simpa using le)
  exact ⟨μ6, _, _, (S.trans S5).trans S6, m.trans (Same.mk'.trans Same.heap), I6, V6, h9⟩
theorem se_back2 {k1 k' : Nat} {p p' p'' p1 p2 : Pos} (ho : SE g d fi o mo) : SE g d fi (.Subscript o (.Slice (some (.UnaryOp .USub (.Constant (.int 2) k1 p1) p2)) none (some (.UnaryOp .USub (.Constant (.int 1) k' p) p')) p'') pos) (xBack2 mo) := by
  intro A env μ loc st s k R En I L hm
  refine Subscript_ (un ho R En I L hm fun v1 μ2 x st2 s2 S m I2 L2 V1 h => ?_)
  refine wpAny_Slice (part_neg fun t1 tk1 => wpAny_evalPart_none (part_neg fun t tk => ?_))
  obtain ⟨i', l, rfl, e, h9⟩ := onLst_of h
  have h9 := alloc_of h9
  obtain ⟨I5, S5⟩ := I2.junk { cls := .type "slice", data := .fields #[.int (-2) t1, .none, .int (-1) t] }
  obtain ⟨ops, hs⟩ := sub_of (.Slice (some (.UnaryOp .USub (.Constant (.int 2) k1 p1) p2)) none (some (.UnaryOp .USub (.Constant (.int 1) k' p) p')) p'') v1 (.ref s2.heap.objs.size)
  have V1 := V1.step S5
  obtain ⟨a, vs, n, f, rfl, hT, W, sz, le⟩ := I5.lst V1 e
  refine tail_any ⟨_, hT, rfl⟩ PySem.F.slot_list_getitem.lookup (wpAny_getItem_list_slice (s := { s2 with heap := s2.heap.push _, toks := tk }) hT.isList ⟨_, Heap.get?_push_size _ rfl, rfl, rfl⟩ (.int (-2) t1) .none (.int (-1) t) (by simp) ?_ (fits (by omega))) hs
  rw [pick_back2]
  obtain ⟨μ6, I6, S6, V6⟩ := I5.newLst (W.reverse.drop 1) (Nat.le_trans (by simp) le)
  exact ⟨μ6, _, _, (S.trans S5).trans S6, m.trans (Same.mk'.trans Same.heap), I6, V6, h9⟩
end
end Mine

open PySem PySem.W PySem.Calls PyProof.Rows
set_option Elab.async false
set_option maxRecDepth 100000
namespace Mine
/-! ## calls of builtins, comparisons -/
theorem boot_len : bootBuiltins "len" = some (.builtin "len") := by kernel_rfl
theorem boot_abs : bootBuiltins "abs" = some (.builtin "abs") := by kernel_rfl
theorem boot_int : bootBuiltins "int" = some (.type "int") := by kernel_rfl
theorem boot_range : bootBuiltins "range" = some (.type "range") := by kernel_rfl
theorem boot_tuple : bootBuiltins "tuple" = some (.type "tuple") := by kernel_rfl
theorem boot_str : bootBuiltins "str" = some (.type "str") := by kernel_rfl
theorem boot_isinstance : bootBuiltins "isinstance" = some (.builtin "isinstance") := by kernel_rfl
abbrev BName (K : Frag) (fi : FI) (x : Str) : Prop := nsIn K mainGlobals x = some none ∧ fi.sc.names.lookup x = some .globalImplicit
section
variable {g : G} {d : Nat} {fi : FI} {a b : Expr} {pos np : Pos} {ma mb : Mine.X} {K : Frag}
theorem se_len (C : Top0 g K) (B : BName K fi "len") (ha : SE g d fi a ma) (he : ∀ env, starEach [a] env = [(false, eval a env)] := by k_dflt (intro _; rfl)) :
    SE g d fi (.Call (.Name "len" np) [a] [] pos) (xLen ma) := by
  intro A env μ loc st s k R En I L hm
  refine Call_Name1 (built_of C En I B.1 boot_len (by decide) B.2 (PySem.callWith_builtin1 (un ha R En I L hm fun v1 μ2 x st2 s2 S m I2 L2 V1 h => ?_))) (he env)
  cases x with
  | str l =>
    obtain ⟨⟨t, rfl⟩, hl⟩ := V1
    exact len_str (by rw [strV_length]; omega) (Ret.toks S m I2 (mv := .int (.ofNat l.length)) ⟨s2.toks + 1, by rw [strV_length]; rfl⟩ h)
  | own i =>
    obtain ⟨ob, e, h1⟩ := withObj_of h
    cases ob with
    | tup l =>
      obtain ⟨c, vs, f, rfl, hT, W, sz, le⟩ := I2.tup V1 e
      exact len_tuple hT (by omega) (Ret.toks S m I2 (mv := .int (.ofNat l.length)) ⟨s2.toks + 1, by rw [sz]; rfl⟩ h1)
    | lst l =>
      obtain ⟨c, vs, n, f, rfl, hT, W, sz, le⟩ := I2.lst V1 e
      exact len_list hT.isList (by omega) (Ret.toks S m I2 (mv := .int (.ofNat l.length)) ⟨s2.toks + 1, by rw [sz]; rfl⟩ h1)
    | _ => cases h1
  | _ => cases h
theorem se_abs (C : Top0 g K) (B : BName K fi "abs") (ha : SE g d fi a ma) (he : ∀ env, starEach [a] env = [(false, eval a env)] := by k_dflt (intro _; rfl)) :
    SE g d fi (.Call (.Name "abs" np) [a] [] pos) (xAbs ma) := by
  intro A env μ loc st s k R En I L hm
  refine Call_Name1 (built_of C En I B.1 boot_abs (by decide) B.2 (PySem.callWith_builtin1 (un ha R En I L hm fun v1 μ2 x st2 s2 S m I2 L2 V1 h => ?_))) (he env)
  cases x with
  | int i =>
    obtain ⟨j, rfl, h⟩ := natOr_of h
    obtain ⟨t, rfl⟩ := V1
    refine call_abs_int fun u tk => Ret.toks S m I2 (mv := .int (.ofNat j)) ⟨u, ?_⟩ h
    rw [if_neg (by omega)]; rfl
  | sym i =>
    obtain ⟨x, t, e, rfl⟩ := V1
    obtain ⟨I3, S3, V3⟩ := I2.sym (if x < 0 then -x else x)
    exact call_abs_int fun u tk => ⟨_, .sym st2.m, _, S.trans S3, m.trans Same.toks, I3, V3 _, h⟩
  | _ => cases h
theorem se_toint (C : Top0 g K) (B : BName K fi "int") (ha : SE g d fi a ma) (he : ∀ env, starEach [a] env = [(false, eval a env)] := by k_dflt (intro _; rfl)) :
    SE g d fi (.Call (.Name "int" np) [a] [] pos) (xInt ma) := by
  intro A env μ loc st s k R En I L hm
  refine Call_Name1 (built_of C En I B.1 boot_int (by decide) B.2 (PySem.callWith_type1 (un ha R En I L hm fun v1 μ2 x st2 s2 S m I2 L2 V1 h => ?_))) (he env)
  cases x with
  | int i =>
    obtain ⟨t, rfl⟩ := V1
    exact call_int_int (Ret.here S m I2 (mv := .int i) ⟨_, rfl⟩ h)
  | sym i =>
    obtain ⟨x, t, e, rfl⟩ := V1
    exact call_int_int (Ret.here S m I2 (mv := .sym i) ⟨_, _, e, rfl⟩ h)
  | _ => cases h
theorem isi_of {A : Around} {env : Env} {x : Str} {ty : Value} {tp : Pos} {Q : Value → Shared → Prop} {μ : Wd} {loc : Mine.L} {st : Mine.St} {s : Shared} {kk : MV → Mine.St → Bool} (C : Top0 g K) (B : BName K fi "isinstance")
    (B' : BName K fi x) (hb : bootBuiltins x = some ty) (hn : x ≠ "__name__") (hdb : (x == ("__debug__" : Str)) = false)
    (ha : SE g d fi a ma) (he : ∀ env, starEach [a, .Name x tp] env = [(false, eval a env), (false, eval (.Name x tp) env)])
    (R : Room d A) (En : EnvOk fi env) (I : Hp g μ st s.heap) (L : Lo g μ fi env loc s.heap) (hm : ma loc st kk = true)
    (h : ∀ v μ2 x st2 s2, Step none' μ μ2 s.heap s2.heap → Same s s2 → Hp g μ2 st2 s2.heap → VR g μ2 v x → kk x st2 = true → wpAny (model g.prog g.w) A (call (.builtin "isinstance") [v, ty]) Q no' s2) :
    wpAny (model g.prog g.w) A (eval (.Call (.Name "isinstance" np) [a, .Name x tp] [] pos) env) Q no' s := by
  refine Call_Name2 (built_of C En I B.1 boot_isinstance (by decide) B.2 (callWith_builtin rfl (evalArgs_plain (spliced_cons (un ha R En I L hm fun v1 μ2 x st2 s2 S m I2 L2 V1 h1 => ?_))))) (he env)
  exact spliced_cons (built_of C En I2 B'.1 hb hn B'.2 (spliced_nil (h _ _ _ _ _ S m I2 V1 h1)) hdb)
theorem se_isi_tuple {tp : Pos} (C : Top0 g K) (B : BName K fi "isinstance") (B' : BName K fi "tuple")
    (ha : SE g d fi a ma) (he : ∀ env, starEach [a, .Name "tuple" tp] env = [(false, eval a env), (false, eval (.Name "tuple" tp) env)] := by k_dflt (intro _; rfl)) :
    SE g d fi (.Call (.Name "isinstance" np) [a, .Name "tuple" tp] [] pos) (xIsi 0 ma) := by
  intro A env μ loc st s k R En I L hm
  refine isi_of C B B' boot_tuple (by decide) (by decide) ha he R En I L hm fun v μ2 x st2 s2 S m I2 V h => ?_
  cases x with
  | none => obtain rfl : v = .none := V; exact IsiPair.NoneType_tuple (Ret.toks S m I2 (mv := .bool false) rfl h)
  | int i => obtain ⟨t, rfl⟩ := V; exact IsiPair.int_tuple (Ret.toks S m I2 (mv := .bool false) rfl h)
  | str l => obtain ⟨⟨t, rfl⟩, _⟩ := V; exact IsiPair.str_tuple (Ret.toks S m I2 (mv := .bool false) rfl h)
  | own i =>
    obtain ⟨ob, e, h1⟩ := withObj_of h
    obtain ⟨l, rfl, h2⟩ := tupOr_of h1
    obtain ⟨c, vs, f, rfl, hT, W, sz, le⟩ := I2.tup V e
    exact IsiPair.tuple_tuple hT.choose_spec.1 hT.choose_spec.2.1 (Ret.here S m I2 (mv := .bool true) rfl h2)
  | _ => cases h
theorem se_isi_str {tp : Pos} (C : Top0 g K) (B : BName K fi "isinstance") (B' : BName K fi "str")
    (ha : SE g d fi a ma) (he : ∀ env, starEach [a, .Name "str" tp] env = [(false, eval a env), (false, eval (.Name "str" tp) env)] := by k_dflt (intro _; rfl)) :
    SE g d fi (.Call (.Name "isinstance" np) [a, .Name "str" tp] [] pos) (xIsi 1 ma) := by
  intro A env μ loc st s k R En I L hm
  refine isi_of C B B' boot_str (by decide) (by decide) ha he R En I L hm fun v μ2 x st2 s2 S m I2 V h => ?_
  cases x with
  | none => obtain rfl : v = .none := V; exact IsiPair.NoneType_str (Ret.toks S m I2 (mv := .bool false) rfl h)
  | int i => obtain ⟨t, rfl⟩ := V; exact IsiPair.int_str (Ret.toks S m I2 (mv := .bool false) rfl h)
  | str l => obtain ⟨⟨t, rfl⟩, _⟩ := V; exact IsiPair.str_str (Ret.here S m I2 (mv := .bool true) rfl h)
  | own i =>
    obtain ⟨ob, e, h1⟩ := withObj_of h
    obtain ⟨l, rfl, h2⟩ := tupOr_of h1
    obtain ⟨c, vs, f, rfl, hT, W, sz, le⟩ := I2.tup V e
    exact IsiPair.tuple_str hT.choose_spec.1 hT.choose_spec.2.1 (Ret.toks S m I2 (mv := .bool false) rfl h2)
  | _ => cases h
/-- one comparison -/
theorem sc_of {op : CmpOp} {m : Mine.Ts} (hi : behindInMarks op b = false)
    (h : ∀ (A : Around) (env : Env) (μ : Wd) (loc : Mine.L) (st : Mine.St) (s : Shared) (k : Bool → Mine.St → Bool), Room d A → EnvOk fi env → Hp g μ st s.heap → Lo g μ fi env loc s.heap → m loc st k = true → ∀ Q : Value → Shared → Prop, (∀ c s', RetB g k μ s c s' → Q (.bool c) s') →
      wpAny (model g.prog g.w) A (eval a env) (fun v1 s1 => wpAny (model g.prog g.w) A (eval b env) (fun v2 s2 => wpAny (model g.prog g.w) A (compareOp op v1 v2) Q no' s2) no' s1) no' s) :
    SC g d fi (.Compare a [op] [b] pos) m := by
  intro A env μ loc st s k R En I L hm
  refine ⟨wpAny_Compare1 (h A env μ loc st s k R En I L hm _ fun c s' z => ⟨c, rfl, z⟩) hi, wpAny_isTrue_Compare1 (h A env μ loc st s k R En I L hm _ fun c s' z => wpAny_truthy_bool z) hi⟩
theorem RetB.here {μ μ1 : Wd} {s s1 : Shared} {kb : Bool → Mine.St → Bool} {st : Mine.St} {c : Bool} (S : Step none' μ μ1 s.heap s1.heap) (m : Same s s1) (I : Hp g μ1 st s1.heap) (h : kb c st = true) : RetB g kb μ s c s1 := ⟨μ1, st, S, m, I, h⟩
theorem nilL_of {o : MO} {f : Bool → Bool} (h : nilL o f = true) : ∃ l, o = .lst l ∧ f l.isEmpty = true := by
  obtain ⟨l, rfl, h⟩ := lstOr_of h
  cases l <;> exact ⟨_, rfl, h⟩
theorem VR.isNone {μ : Wd} {v : Value} {x : MV} (V : VR g μ v x) : (v == Value.none) = (match x with | .none => true | _ => false) := by
  cases x <;> simp only [VR] at V
  all_goals first
    | (subst V; decide)
    | (obtain ⟨_, _, rfl⟩ := V; rfl)
    | (obtain ⟨_, _, _, rfl⟩ := V; rfl)
    | (obtain ⟨_, rfl⟩ := V; rfl)
    | (obtain ⟨⟨_, rfl⟩, _⟩ := V; rfl)
    | (obtain ⟨_, rfl, _⟩ := V; rfl)
    | (obtain ⟨_, _, rfl, _⟩ := V; rfl)
    | skip
theorem marks_eq (op : CmpOp) (h : (op == .In || op == .NotIn) = false) (b : Expr) : behindInMarks op b = false := by
  unfold behindInMarks
  split
  · rw [h]; simp
  · rfl
theorem Room.cl {A : Around} (R : Room d A) : A.units < cLine := by have := R.2.2; have : 5000 < cLine := by decide
                                                                    omega
theorem sc_eq (ha : SE g d fi a ma) (hb : SE g d fi b mb) : SC g d fi (.Compare a [.Eq] [b] pos) (tEq ma mb) := by
  refine sc_of (marks_eq _ rfl b) fun A env μ loc st s k R En I L hm Q hQ => bin ha hb R En I L hm fun v1 v2 μ2 x y st2 s2 S m I2 L2 V1 V2 h => ?_
  cases x with
  | bool i =>
    obtain ⟨j, rfl, h1⟩ := ifBool_of h
    obtain rfl : v1 = .bool i := V1
    obtain rfl : v2 = .bool j := V2
    refine eq_bool (hQ _ _ (RetB.here S m I2 ?_))
    cases i <;> cases j <;> exact h1
  | int i =>
    obtain ⟨j, rfl, h1⟩ := ifInt_of h
    obtain ⟨t, rfl⟩ := V1; obtain ⟨u, rfl⟩ := V2
    exact eq_int (hQ _ _ (RetB.here S m I2 (by rw [← eqB_eq]; exact h1)))
  | str i =>
    obtain ⟨j, rfl, h1⟩ := ifStr_of h
    obtain ⟨⟨t, rfl⟩, _⟩ := V1; obtain ⟨⟨u, rfl⟩, _⟩ := V2
    exact eq_str (hQ _ _ (RetB.here S m I2 (by rw [strV_beq]; exact h1)))
  | own i =>
    obtain ⟨j, rfl, h1⟩ := ifOwn_of h
    obtain ⟨o, e2, h2⟩ := withObj_of h1
    obtain ⟨l', rfl, h3⟩ := nilL_of h2
    rcases bool_of h3 with ⟨q, h4⟩ | ⟨_, h4⟩
    case inr => cases h4
    obtain ⟨o, e1, h5⟩ := withObj_of h4
    obtain ⟨l, rfl, h6⟩ := nilL_of h5
    obtain ⟨c, vs, n, f, rfl, hT, W, sz, le⟩ := I2.lst V1 e1
    obtain ⟨c', vs', n', f', rfl, hT', W', sz', le'⟩ := I2.lst V2 e2
    have z' : vs'.size = 0 := by rw [sz']; simpa using q
    cases l with
    | nil =>
      have z : vs.size = 0 := sz
      refine SeqAt.eq_listAt hT.isList hT'.isList (by omega) R.cl (e := fun _ => true) (fun j h1 => by omega) ?_
      rw [z]
      exact hQ _ _ (RetB.here S m I2 h6)
    | cons p r =>
      refine SeqAt.eq_list_lengthsAt hT.isList hT'.isList ?_ R.cl (hQ _ _ (RetB.here S m I2 h6))
      rw [sz, z']; simp
  | _ => cases h
theorem sc_ne (ha : SE g d fi a ma) (hb : SE g d fi b mb) : SC g d fi (.Compare a [.NotEq] [b] pos) (tNe ma mb) := by
  refine sc_of (marks_eq _ rfl b) fun A env μ loc st s k R En I L hm Q hQ => bin ha hb R En I L hm fun v1 v2 μ2 x y st2 s2 S m I2 L2 V1 V2 h => ?_
  cases x with
  | bool i =>
    obtain ⟨j, rfl, h1⟩ := ifBool_of h
    obtain rfl : v1 = .bool i := V1
    obtain rfl : v2 = .bool j := V2
    refine ne_bool (hQ _ _ (RetB.here S m I2 ?_))
    cases i <;> cases j <;> exact h1
  | int i =>
    obtain ⟨j, rfl, h1⟩ := ifInt_of h
    obtain ⟨t, rfl⟩ := V1; obtain ⟨u, rfl⟩ := V2
    exact ne_int (hQ _ _ (RetB.here S m I2 (by show k (!(i == j)) st2 = true; rw [← eqB_eq]; exact h1)))
  | str i =>
    obtain ⟨j, rfl, h1⟩ := ifStr_of h
    obtain ⟨⟨t, rfl⟩, _⟩ := V1; obtain ⟨⟨u, rfl⟩, _⟩ := V2
    exact ne_str (hQ _ _ (RetB.here S m I2 (by show k (!(strV i == strV j)) st2 = true; rw [strV_beq]; exact h1)))
  | own i =>
    obtain ⟨j, rfl, h1⟩ := ifOwn_of h
    obtain ⟨o, e2, h2⟩ := withObj_of h1
    obtain ⟨l', rfl, h3⟩ := nilL_of h2
    rcases bool_of h3 with ⟨q, h4⟩ | ⟨_, h4⟩
    case inr => cases h4
    obtain ⟨o, e1, h5⟩ := withObj_of h4
    obtain ⟨l, rfl, h6⟩ := nilL_of h5
    obtain ⟨c, vs, n, f, rfl, hT, W, sz, le⟩ := I2.lst V1 e1
    obtain ⟨c', vs', n', f', rfl, hT', W', sz', le'⟩ := I2.lst V2 e2
    have z' : vs'.size = 0 := by rw [sz']; simpa using q
    cases l with
    | nil =>
      have z : vs.size = 0 := sz
      refine SeqAt.RcNeAt.lists hT.isList hT'.isList (by omega) R.cl (e := fun _ => true) (fun j h1 => by omega) _ _ _ Q ?_
      rw [z]
      exact hQ _ _ (RetB.here S m I2 h6)
    | cons p r =>
      refine SeqAt.RcNeAt.lists_lengths hT.isList hT'.isList ?_ R.cl _ _ _ Q (hQ _ _ (RetB.here S m I2 h6))
      rw [sz, z']; simp
  | _ => cases h
theorem sc_gt (ha : SE g d fi a ma) (hb : SE g d fi b mb) : SC g d fi (.Compare a [.Gt] [b] pos) (tGt ma mb) := by
  refine sc_of (marks_eq _ rfl b) fun A env μ loc st s k R En I L hm Q hQ => bin ha hb R En I L hm fun v1 v2 μ2 x y st2 s2 S m I2 L2 V1 V2 h => ?_
  obtain ⟨i, rfl, h1⟩ := ifInt_of h
  obtain ⟨j, rfl, h2⟩ := ifInt_of h1
  obtain ⟨t, rfl⟩ := V1; obtain ⟨u, rfl⟩ := V2
  exact gt_int (hQ _ _ (RetB.here S m I2 (by rw [← ltB_eq]; exact h2)))
theorem isNone_of {x : MV} {μ : Wd} {v : Value} {k : Bool → Bool} (V : VR g μ v x) (h : isNone x k = true) : k (v == Value.none) = true := by
  rw [V.isNone]
  cases x <;> first | exact h | cases h
theorem sc_isN {k' : Nat} {p : Pos} (ha : SE g d fi a ma) : SC g d fi (.Compare a [.Is] [.Constant .none k' p] pos) (tIsN ma) := by
  refine sc_of rfl fun A env μ loc st s k R En I L hm Q hQ => un ha R En I L hm fun v1 μ2 x st2 s2 S m I2 L2 V1 h => ?_
  exact wpAny_Constant_none (is_none_gen (hQ _ _ (RetB.here S m I2 (isNone_of V1 h))))
theorem sc_notN {k' : Nat} {p : Pos} (ha : SE g d fi a ma) : SC g d fi (.Compare a [.IsNot] [.Constant .none k' p] pos) (tNotN ma) := by
  refine sc_of rfl fun A env μ loc st s k R En I L hm Q hQ => un ha R En I L hm fun v1 μ2 x st2 s2 S m I2 L2 V1 h => ?_
  exact wpAny_Constant_none (isnot_none_gen (hQ _ _ (RetB.here S m I2 (isNone_of (k := fun c => k (!c) st2) V1 h))))
theorem inStrs_eq (x : List Nat) (l : List (List Nat)) : (l.map strV).any (· == strV x) = inStrs x l := by
  induction l with
  | nil => rfl
  | cons y r ih =>
    show (strV y == strV x || (r.map strV).any (· == strV x)) = Bool.rec (inStrs x r) true (strB x y)
    rw [ih, strV_beq, strB_eq, strB_eq]
    by_cases h : y = x
    · subst h; simp
    · simp [h, Ne.symm h]
theorem strs_of {μ : Wd} {vs : List Value} {l : List (List Nat)} (W : All2 (VR g μ) vs (l.map MV.str)) : StrsAre vs (l.map strV) := by
  induction l generalizing vs with
  | nil => cases W; exact .nil
  | cons y r ih =>
    cases W with
    | cons V W => obtain ⟨⟨t, rfl⟩, _⟩ := V; exact .cons _ _ (ih W)
theorem sc_inT {es : List Expr} {k' : Nat} {p : Pos} {ms : Mine.Xs} {l : List (List Nat)} (ha : SE g d fi a ma) (hs : SEs g d fi es ms) (hms : ∀ loc st k, ms loc st k = k (l.map MV.str) st) (hl : es.length ≤ 1000) : SC g d fi (.Compare a [.In] [.Tuple es k' p] pos) (tInT ma l) := by
  refine sc_of rfl fun A env μ loc st s k R En I L hm Q hQ => un ha R En I L hm fun v1 μ2 x st2 s2 S m I2 L2 V1 h => ?_
  obtain ⟨y, rfl, h1⟩ := ifStr_of h
  obtain ⟨⟨t, rfl⟩, _⟩ := V1
  have hd : ms loc st2 (fun vs st => @decide (vs = l.map MV.str ∧ k (inStrs y l) st = true) (Classical.propDecidable _)) = true := by rw [hms]; exact @decide_eq_true _ (Classical.propDecidable _) ⟨rfl, h1⟩
  refine PySem.wpAny_Tuple (wpAny_mono (hs _ _ p _ _ _ _ _ R En I2 L2 hd) (fun vs s3 h3 => ?_) fun _ _ z => z)
  obtain ⟨μ3, mvs, st3, S3, m3, I3, W, n3, h3⟩ := h3
  obtain ⟨rfl, h4⟩ := @of_decide_eq_true _ (Classical.propDecidable _) h3
  refine ⟨by rw [n3]; exact fits hl, ?_⟩
  obtain ⟨I4, S4⟩ := I3.junk { cls := .type "tuple", data := .seq vs.toArray }
  refine in_tuple_strs (items := vs.toArray) ⟨_, Heap.get?_push_size _ rfl, rfl, _, rfl⟩ (strs_of W) (hQ _ _ (RetB.here ((S.trans S3).trans S4) ((m.trans m3).trans Same.heap) I4 ?_))
  rw [inStrs_eq]; exact h4
/-- in a tuple that stands in the program's heap -/
theorem sc_inTg {x : Str} {p : Pos} {l : List (List Nat)} {c : Addr} {o : Obj} {n : Nat} {vs : List Value} (C : Top0 g K) (e : nsIn K mainGlobals x = some (some (.ref c))) (hx : fi.sc.names.lookup x = some .globalImplicit) (ho : List.lookup c K = some o) (hc : o.cls = .type "tuple") (hd : o.data = .seq vs.toArray n) (W : StrsAre vs (l.map strV))
    (ha : SE g d fi a ma) (hdb : (x == ("__debug__" : Str)) = false := by k_dflt decide) : SC g d fi (.Compare a [.In] [.Name x p] pos) (tInT ma l) := by
  refine sc_of rfl fun A env μ loc st s k R En I L hm Q hQ => un ha R En I L hm fun v1 μ2 y st2 s2 S m I2 L2 V1 h => ?_
  obtain ⟨y, rfl, h1⟩ := ifStr_of h
  obtain ⟨⟨t, rfl⟩, _⟩ := V1
  refine glob_of C En I2 e hx (in_tuple_strs (items := vs.toArray) ⟨o, I2.h0 _ _ (C.X _ _ ho), hc, n, hd⟩ W (hQ _ _ (RetB.here S m I2 ?_))) hdb
  rw [inStrs_eq]; exact h1
theorem sc_inL (ha : SE g d fi a ma) (hb : SE g d fi b mb) (hi : behindInMarks .In b = false) : SC g d fi (.Compare a [.In] [b] pos) (tInL ma mb) := by
  refine sc_of hi fun A env μ loc st s k R En I L hm Q hQ => bin ha hb R En I L hm fun v1 v2 μ2 x y st2 s2 S m I2 L2 V1 V2 h => ?_
  obtain ⟨x, rfl, h1⟩ := ifStr_of h
  obtain ⟨i, l, rfl, e, h2⟩ := onLst_of h1
  obtain ⟨⟨t, rfl⟩, _⟩ := V1
  obtain ⟨c, vs, n, f, rfl, hT, W, sz, le⟩ := I2.lst V2 e
  cases l with
  | cons p r => cases h2
  | nil =>
    have z : vs = #[] := by have : vs.size = 0 := sz
                            exact Array.eq_empty_of_size_eq_zero this
    subst z
    exact in_list_strs (vs := []) hT.isList .nil (hQ _ _ (RetB.here S m I2 h2))
theorem hasN_eq (c : Nat) (l : List Nat) : hasN c l = decide (c ∈ l) := by
  induction l with
  | nil => rfl
  | cons y r ih =>
    show (Bool.rec (hasN c r) true (Nat.beq y c) : Bool) = _
    cases q : Nat.beq y c with
    | true => have := Nat.eq_of_beq_eq_true q; subst this; simp
    | false =>
      have : ¬ c = y := fun e => by subst e; simp at q
      show hasN c r = _
      rw [ih]; simp [this]
theorem sc_notIn {x : Str} {c : Nat} {k' : Nat} {p : Pos} (hx : x = strV [c]) (hb : SE g d fi b mb) (hi : behindInMarks .NotIn b = false) : SC g d fi (.Compare (.Constant (.str x) k' p) [.NotIn] [b] pos) (tNotIn c mb) := by
  refine sc_of hi fun A env μ loc st s k R En I L hm Q hQ => wpAny_Constant_str ?_
  refine un (s := { s with toks := s.toks + 1 }) hb R En I L hm fun v1 μ2 y st2 s2 S m I2 L2 V1 h => ?_
  obtain ⟨l, rfl, h1⟩ := ifStr_of h
  obtain ⟨⟨t, rfl⟩, _⟩ := V1
  subst hx
  refine notIn_str (hQ _ _ (RetB.here S (Same.toks.trans m) I2 ?_))
  have := empty_one (strV l) c
  show k (!!(Builtin.Str.occurrences (strV l) { cps := #[c] } 0 (strV l).length 1).isEmpty) st2 = true
  rw [this]
  rw [hasN_eq] at h1
  show k (!!(!decide (c ∈ l))) st2 = true
  simpa using h1
end
end Mine

open PySem PySem.W PySem.Calls PyProof.Rows
set_option Elab.async false
set_option maxRecDepth 100000
namespace Mine
/-! ## attributes -/
section
variable {g : G} {μ : Wd} {K : Frag}
theorem VR.handed {v : Value} {x : MV} (V : VR g μ v x) : handedIn v = true := by
  cases x <;> simp only [VR] at V
  all_goals first
    | (subst V; rfl)
    | (obtain ⟨_, _, rfl⟩ := V; rfl)
    | (obtain ⟨_, _, _, rfl⟩ := V; rfl)
    | (obtain ⟨_, rfl⟩ := V; rfl)
    | (obtain ⟨⟨_, rfl⟩, _⟩ := V; rfl)
    | (obtain ⟨_, rfl, _⟩ := V; rfl)
    | (obtain ⟨_, _, rfl, _⟩ := V; rfl)
    | skip
theorem attr_inj : ∀ a b : Fin 18, attrS[a.1]? = attrS[b.1]? → a = b := by decide +kernel
theorem attr_iff {a b : Nat} {x y : Str} (ha : attrS[a]? = some x) (hb : attrS[b]? = some y) : x = y ↔ a = b := by
  constructor
  · rintro rfl
    have h1 : a < 18 := (List.getElem?_eq_some_iff.mp ha).1
    have h2 : b < 18 := (List.getElem?_eq_some_iff.mp hb).1
    have := attr_inj ⟨a, h1⟩ ⟨b, h2⟩ (ha.trans hb.symm)
    exact congrArg Fin.val this
  · rintro rfl; rw [ha] at hb; cases hb; rfl
theorem isStr_str (x y : Str) (t : Tok) : (Value.str x t).isStr y = (x == y) := rfl
theorem getL_fget {a : Nat} {name : Str} (ha : attrS[a]? = some name) : ∀ {es : List DictEntry} {fs : List (Nat × MV)}, All2 (ER g μ) es fs → fget fs a ≠ .unb → ∃ v, getL name es = some (some v) ∧ VR g μ v (fget fs a)
  | [], _, .nil, h => absurd rfl h
  | e :: es, p :: fs, .cons r W, h => by
    obtain ⟨x, t, e1, e2, e3, V⟩ := r
    have hf : fget (p :: fs) a = (Bool.rec (fget fs a) p.2 (Nat.beq p.1 a) : MV) := rfl
    cases q : Nat.beq p.1 a with
    | true =>
      have q' := Nat.eq_of_beq_eq_true q
      rw [q] at hf
      rw [q', ha] at e1; cases e1
      refine ⟨e.val, ?_, by rw [hf]; exact V⟩
      unfold getL
      rw [List.find?_cons, e2, isStr_str]; simp
    | false =>
      rw [q] at hf
      have hf : fget (p :: fs) a = fget fs a := hf
      rw [hf] at h ⊢
      have q' : p.1 ≠ a := fun z => by rw [z] at q; simp at q
      have ne : (x == name) = false := by rw [beq_eq_false_iff_ne]; exact fun z => q' ((attr_iff e1 ha).mp z)
      obtain ⟨v, hv, Vv⟩ := getL_fget ha W h
      refine ⟨v, ?_, Vv⟩
      unfold getL at hv ⊢
      rw [List.find?_cons, e2, isStr_str, ne]
      cases q2 : es.find? (·.key.isStr name) with
      | some e' => rw [q2] at hv; exact hv
      | none =>
        rw [q2] at hv
        dsimp only at hv
        split at hv <;> cases hv
theorem getL_isSome {name : Str} {es : List DictEntry} {fs : List (Nat × MV)} (W : All2 (ER g μ) es fs) : (getL name es).isSome = true := by
  unfold getL
  split
  · rfl
  · rw [if_neg]; rfl
    intro h
    obtain ⟨e, he, hr⟩ := List.any_eq_true.mp h
    have key : ∀ {es : List DictEntry} {fs : List (Nat × MV)}, All2 (ER g μ) es fs → ∀ e ∈ es, e.refKey = false := by
      intro es fs W
      induction W with
      | nil => intro e h; cases h
      | cons r _ ih =>
        intro e h
        rcases List.mem_cons.mp h with rfl | h
        · obtain ⟨x, t, _, e2, _⟩ := r; simp [DictEntry.refKey, e2]
        · exact ih e h
    rw [key W e he] at hr; cases hr
theorem putL_fput {a : Nat} {name : Str} {hsh : Int} {t : Tok} {v : Value} {mv : MV} (ha : attrS[a]? = some name) (hh : hsh = PyData.keyHash g.w.params name) (V : VR g μ v mv) :
    ∀ {es : List DictEntry} {fs : List (Nat × MV)}, All2 (ER g μ) es fs → All2 (ER g μ) (putL name hsh (.str name t) v es) (fput fs a mv)
  | [], _, .nil => .cons ⟨name, t, ha, rfl, hh, V⟩ .nil
  | e :: es, p :: fs, .cons r W => by
    obtain ⟨x, t', e1, e2, e3, V'⟩ := id r
    have hf : fput (p :: fs) a mv = (Bool.rec (p :: fput fs a mv) ((a, mv) :: fs) (Nat.beq p.1 a) : List (Nat × MV)) := rfl
    rw [hf]
    cases q : Nat.beq p.1 a with
    | true =>
      have q' := Nat.eq_of_beq_eq_true q
      rw [q', ha] at e1; cases e1
      unfold putL
      rw [e2, isStr_str]
      simp only [beq_self_eq_true, if_true]
      exact .cons ⟨name, t', ha, by first | exact e2 | rfl, e3, V⟩ W
    | false =>
      have q' : p.1 ≠ a := fun z => by rw [z] at q; simp at q
      have ne : (x == name) = false := by rw [beq_eq_false_iff_ne]; exact fun z => q' ((attr_iff e1 ha).mp z)
      unfold putL
      rw [e2, isStr_str, ne]
      exact .cons (by exact r) (putL_fput ha hh V W)
theorem clsOk_of {C : Nat} {name : Str} (h : clsOk K C name = true) : plainGet K C name = true ∧ hasDictIn K C = true ∧ (∃ attr, findIn K (.ref C) name = some attr ∧ noGet K attr = true) ∧ plainOver K C = true ∧ takerIn K C name = some none ∧ findIn K (.ref C) "__setattr__" = some (some (.builtin "object.__setattr__")) := by
  unfold clsOk at h
  simp only [Bool.and_eq_true, beq_iff_eq] at h
  obtain ⟨⟨⟨⟨⟨h1, h2⟩, h3⟩, h4⟩, h5⟩, h6⟩ := h
  refine ⟨h1, h2, ?_, h4, h5, h6⟩
  cases q : findIn K (.ref C) name with
  | none => rw [q] at h3; cases h3
  | some attr => rw [q] at h3; exact ⟨attr, rfl, h3⟩
theorem Top0.in_ (C : Top0 g K) {st : Mine.St} {h : Heap} (I : Hp g μ st h) : K.In h := fun a o e => I.h0 _ _ (C.X a o e)
theorem inst_at {h : Heap} {a : Nat × Nat} {c : Nat} {es : List DictEntry} {n : Nat} (e1 : h.get? a.1 = some (instObj c a.2)) (e2 : h.get? a.2 = some (dictOf es n)) : W.InstAt h a.1 (instObj c a.2) c (some (dictOf es n)) := ⟨e1, rfl, rfl, e2⟩
theorem Hp.ins {st : Mine.St} {h : Heap} (I : Hp g μ st h) {i c : Nat} {v : Value} {fs : List (Nat × MV)} (V : VR g μ v (.own i)) (e : st.h.get i = some (.inst c fs)) : ∃ a es n, μ.ρ[i]? = some a ∧ v = .ref a.1 ∧ a.1 ≠ a.2 ∧ h.get? a.1 = some (instObj c a.2) ∧ h.get? a.2 = some (dictOf es n) ∧ All2 (ER g μ) es fs ∧ fs.length ≤ 1000 ∧ c ∈ clsL := by
  obtain ⟨a, f, rfl, ne, es, n, e1, e2, W, l, hc⟩ := I.got V e
  exact ⟨a, es, n, f, rfl, ne, e1, e2, W, l, hc⟩
theorem getA {A : Around} {E : Value → Shared → Prop} {s : Shared} {st : Mine.St} {i c at_ : Nat} {name : Str} {x : Value} {fs : List (Nat × MV)} {Q : Value → Shared → Prop} {expr : Bool} (C : Top0 g K) (I : Hp g μ st s.heap) (V : VR g μ x (.own i)) (e : st.h.get i = some (.inst c fs)) (hn : attrS[at_]? = some name) (ne : fget fs at_ ≠ .unb)
    (h : ∀ v, VR g μ v (fget fs at_) → Q v { s with toks := s.toks + 1 }) : wpAny (model g.prog g.w) A (getAttr x name expr) Q E s := by
  obtain ⟨a, es, n, f, rfl, ne', e1, e2, W, l, hc⟩ := I.ins V e
  obtain ⟨v, hv, Vv⟩ := getL_fget hn W ne
  obtain ⟨h1, h2, ⟨attr, h3, h4⟩, h5, h6, h7⟩ := clsOk_of (C.cls c hc name (List.mem_of_getElem? hn))
  exact get_value (C.in_ I) (inst_at e1 e2) (plainGet_of h1).1 (findObj_own h2 h3 h4 hv) Vv.handed (h v Vv)
theorem set_raw {A : Around} {E : Value → Shared → Prop} {s : Shared} {c : Nat} {a : Nat × Nat} {es : List DictEntry} {n : Nat} {name : Str} {v : Value} {Q : Unit → Shared → Prop} (X : K.In s.heap) (e1 : s.heap.get? a.1 = some (instObj c a.2)) (e2 : s.heap.get? a.2 = some (dictOf es n))
    (hl : (getL name es).isSome = true) (hok : clsOk K c name = true) (hz : (putL name (PyData.keyHash g.w.params name) (.str name (s.toks + 1)) v es).length ≤ 1000)
    (h : ∀ h' : Heap, (∀ b, b ≠ a.2 → h'.get? b = s.heap.get? b) → h'.get? a.2 = some (dictOf (putL name (PyData.keyHash g.w.params name) (.str name (s.toks + 1)) v es) (putN name es n)) → Q () { s with heap := h', toks := s.toks + 2 }) :
    wpAny (model g.prog g.w) A (setAttr (.ref a.1) name v) Q E s := by
  obtain ⟨h1, h2, -, h5, h6, h7⟩ := clsOk_of hok
  have I := inst_at e1 e2
  have X' : K.In ({ s with toks := s.toks + 1 } : Shared).heap := X
  refine set_plain X I h7 (osa_open (s := { s with toks := s.toks + 1 }) X I h5 h6 fun b => ?_)
  obtain ⟨cd, hc, hd⟩ := any_some h2
  let f := Obj.putName name (PyData.keyHash g.w.params name) (.str name (s.toks + 1)) v
  have ef : f (dictOf es n) = dictOf (putL name (PyData.keyHash g.w.params name) (.str name (s.toks + 1)) v es) (putN name es n) := putName_dict ..
  have D' : (s.heap.update a.2 f).get? a.2 = some (dictOf (putL name (PyData.keyHash g.w.params name) (.str name (s.toks + 1)) v es) (putN name es n)) := by
    rw [← ef]; exact Heap.get?_update_self f e2 (by rw [ef]; rfl)
  refine wpAny_bind (wpAny_pure (wpAny_bind (wpAny_bind (wpAny_loadPart e1 (wpAny_bind ((looks_clsIn X' hc).here (s := { s with toks := s.toks + 1 }) ?_))))))
  rw [hd]
  refine wpAny_pure (a := some a.2) (wpAny_bind (wpAny_pure (wpAny_bind ?_)))
  unfold nsSet
  refine wpAny_bind (wpAny_bind (wpAny_askSetting (wpAny_pure (wpAny_bind (wpAny_mkText (wpAny_bind (wpAny_loadPart e2 ?_)))))))
  have hno : (!es.toArray.any (·.key.isStr name) && es.toArray.any (·.refKey)) = false := by
    rw [List.any_toArray, List.any_toArray]
    unfold getL at hl
    split at hl
    · rename_i en he
      have : (es.any fun x => x.key.isStr name) = true := List.any_eq_true.mpr ⟨en, List.mem_of_find?_eq_some he, List.find?_some (p := fun x : DictEntry => x.key.isStr name) he⟩
      rw [this]; rfl
    · split at hl
      · cases hl
      · rename_i z; rw [Bool.not_eq_true] at z; rw [z, Bool.and_false]
  dsimp only
  rw [aRefKeyMayBeTheName_at, hno]
  refine wpAny_updatePart e2 (wpAny_bind (wpAny_lookBehind D' (pastItsLine_dict (by rw [List.size_toArray, sizeLine_eq]; omega)) ?_))
  exact wpAny_pure (h _ (fun b hb => Heap.get?_update_other _ _ (Ne.symm hb)) D')
end
section
variable {g : G} {d : Nat} {fi : FI} {o e : Expr} {pos : Pos} {mo me : Mine.X} {K : Frag}
theorem se_att {at_ : Nat} {name : Str} (C : Top0 g K) (hn : attrS[at_]? = some name) (ho : SE g d fi o mo)
    (he : ∀ env, eval (.Attribute o name pos) env = (do let x ← eval o env; standAt pos.atName; let r ← holding [x] (getAttr x name true); letTemporaryGo o x r; pure r) := by k_dflt (intro _; rfl)) : SE g d fi (.Attribute o name pos) (xAtt mo at_) := by
  intro A env μ loc st s k R En I L hm
  refine Attribute_any_ (un ho R En I L hm fun v1 μ2 x st2 s2 S m I2 L2 V1 h => ?_) (he env)
  obtain ⟨i, rfl, h1⟩ := ifOwn_of h
  obtain ⟨ob, e, h2⟩ := withObj_of h1
  obtain ⟨c, fs, rfl, h3⟩ := insOr_of h2
  obtain ⟨ne, h4⟩ := okK_of h3
  exact getA C I2 V1 e hn ne fun v Vv => Ret.toks S m I2 Vv h4
/-- how a call of a method is read -/
abbrev IsMeth (o : Expr) (name : Str) (apos pos : Pos) (args : List Expr) : Prop := ∀ env, ∃ pl : Sem Bool, eval (.Call (.Attribute o name apos) args [] pos) env = (do
  let ov ← eval o env
  standAt apos.atName
  let (f, first) ← holding [ov] (getMethod ov name pl)
  callWith pos f first (backTo pos (starEach args env)) [])
theorem IsL.noDict {h : Heap} {l : Nat} {items : Array Value} {n : Nat} (x : IsL h l items n) : h.NoDictAt (.ref l) := by
  first
    | exact ⟨_, x, rfl⟩
    | (intro a e; cases e; exact ⟨_, x, rfl⟩)
    | (unfold Heap.NoDictAt; intro o ho; rw [x] at ho; cases ho; rfl)
    | (unfold Heap.NoDictAt; simp [x])
theorem se_pop {apos : Pos} (ho : SE g d fi o mo) (he : IsMeth o "pop" apos pos []) : SE g d fi (.Call (.Attribute o "pop" apos) [] [] pos) (xPop mo) := by
  intro A env μ loc st s k R En I L hm
  obtain ⟨pl, he⟩ := he env
  refine MethodCall_ (un ho R En I L hm fun v1 μ2 x st2 s2 S m I2 L2 V1 h => ?_) he
  obtain ⟨i, l, rfl, e, h1⟩ := onLst_of h
  obtain ⟨a, vs, n, f, rfl, hT, W, sz, le⟩ := I2.lst V1 e
  have h1 : (List.rec false (fun v t _ => okK v fun v => k v (upd st2 i (.lst t.reverse))) l.reverse : Bool) = true := h1
  cases q : l.reverse with
  | nil => rw [q] at h1; cases h1
  | cons mv r =>
    rw [q] at h1
    obtain ⟨ne, h2⟩ := okK_of h1
    have hl : l = r.reverse ++ [mv] := by rw [← List.reverse_reverse l, q]; simp
    rw [hl] at W
    obtain ⟨ws, v, ew, W', Vv⟩ := W.snoc
    have hs : vs.size = ws.length + 1 := by rw [← Array.length_toList, ew]; simp
    have hv : vs[vs.size - 1]? = some v := by rw [hs, ← Array.getElem?_toList, ew]; simp
    refine getMethod_list_of PySem.F.slot_list_pop PySem.F.type_list_pop hT.isList (IsL.noDict hT) ?_
    refine P.pop_list hT hv ?_ (fits (by omega))
    have hu := hT.update fun xs => xs.eraseIdxIfInBounds (vs.size - 1)
    have ei : (vs.eraseIdxIfInBounds (vs.size - 1)).toList = ws := by
      have hsz : vs.size - 1 < vs.size := by omega
      rw [Array.eraseIdxIfInBounds, dif_pos hsz, Array.toList_eraseIdx, ew, hs]
      simp [List.eraseIdx_append_of_length_le]
    obtain ⟨I3, S3⟩ := I2.set e f (.inl rfl) (h' := s2.heap.update a.1 (Obj.mapSeq fun xs => xs.eraseIdxIfInBounds (vs.size - 1))) (fun b hb => Heap.get?_update_other _ _ (Ne.symm hb)) ⟨_, hu⟩
      (mo' := .lst r.reverse) ⟨_, _, hu, by rw [ei]; exact W', by rw [hl] at le; simp at le ⊢; omega⟩
    exact ⟨μ2, mv, _, S.trans S3, m.trans Same.heap, I3, Vv, h2⟩
abbrev One (e : Expr) : Prop := ∀ env, starEach [e] env = [(false, eval e env)]
theorem arg1 {A : Around} {env : Env} {s : Shared} {Q : List Value → Shared → Prop} (he : One e) (h : wpAny (model g.prog g.w) A (eval e env) (fun v s1 => Q [v] s1) no' s) : wpAny (model g.prog g.w) A (spliced (backTo pos (starEach [e] env))) Q no' s :=
  wpAny_items_cons (wpAny_mono h (fun _ _ h1 => wpAny_items_nil h1) fun _ _ z => z) (he env)
theorem meth1 {A : Around} {env : Env} {s : Shared} {Q : Value → Shared → Prop} {id : String} {first : List Value} (he : One e) (h : wpAny (model g.prog g.w) A (eval e env) (fun v s1 => wpAny (model g.prog g.w) A (call (.builtin id) (first ++ [v])) Q no' s1) no' s) :
    wpAny (model g.prog g.w) A (callWith pos (.builtin id) first (backTo pos (starEach [e] env)) []) Q no' s :=
  callWith_method1 (arg1 he h) (he env) rfl
theorem se_app {apos : Pos} (ho : SE g d fi o mo) (hx : SE g d fi e me) (hm' : IsMeth o "append" apos pos [e]) (h1' : One e := by k_dflt (intro _; rfl)) : SE g d fi (.Call (.Attribute o "append" apos) [e] [] pos) (xApp mo me) := by
  intro A env μ loc st s k R En I L hm
  obtain ⟨pl, he⟩ := hm' env
  refine MethodCall_ (un ho R En I L hm fun v1 μ2 x st2 s2 S m I2 L2 V1 h => ?_) he
  obtain ⟨i, l0, rfl, e0, h1⟩ := onLst_of h
  obtain ⟨a0, vs0, n0, f0, rfl, hT0, -⟩ := I2.lst V1 e0
  refine getMethod_list_of PySem.F.slot_list_append PySem.F.type_list_append hT0.isList (IsL.noDict hT0) ?_
  refine meth1 h1' (un hx R En I2 L2 h1 fun v3 μ3 y st3 s3 S3 m3 I3 L3 V3 h3 => ?_)
  have V1 := V1.step S3
  obtain ⟨i', l, q, e, h4⟩ := onLst_of h3
  injection q with q
  subst q
  obtain ⟨hl, h5⟩ := few_le h4
  obtain ⟨a, vs, n, f, q, hT, W, sz, le⟩ := I3.lst V1 e
  rw [q]
  refine call_meets PySem.F.slot_list_append ⟨_, hT, rfl⟩ PySem.F.entry_list_append (PySem.F.args_list_append_2 _ _) (PySem.list_append a.1 vs n v3 (fits (by omega))) ⟨hT, ?_⟩
  have hu := hT.update fun xs => xs.push v3
  obtain ⟨I4, S4⟩ := I3.set e f (.inl rfl) (h' := s3.heap.update a.1 (Obj.mapSeq fun xs => xs.push v3)) (fun b hb => Heap.get?_update_other _ _ (Ne.symm hb)) ⟨_, hu⟩
    (mo' := .lst (l ++ [y])) ⟨_, _, hu, by simpa using W.append (.one V3), hl⟩
  exact ⟨μ3, .none, _, (S.trans S3).trans S4, (m.trans m3).trans Same.mk', I4, rfl, h5⟩
theorem se_ext {apos : Pos} (ho : SE g d fi o mo) (hx : SE g d fi e me) (hm' : IsMeth o "extend" apos pos [e]) (h1' : One e := by k_dflt (intro _; rfl)) : SE g d fi (.Call (.Attribute o "extend" apos) [e] [] pos) (xExt mo me) := by
  intro A env μ loc st s k R En I L hm
  obtain ⟨pl, he⟩ := hm' env
  refine MethodCall_ (un ho R En I L hm fun v1 μ2 x st2 s2 S m I2 L2 V1 h => ?_) he
  obtain ⟨i, l0, rfl, e0, h1⟩ := onLst_of h
  obtain ⟨a0, vs0, n0, f0, rfl, hT0, -⟩ := I2.lst V1 e0
  refine getMethod_list_of PySem.F.slot_list_extend PySem.F.type_list_extend hT0.isList (IsL.noDict hT0) ?_
  refine meth1 h1' (un hx R En I2 L2 h1 fun v3 μ3 y st3 s3 S3 m3 I3 L3 V3 h3 => ?_)
  have V1 := V1.step S3
  obtain ⟨i', l, q, e, h4⟩ := onLst_of h3
  injection q with q
  subst q
  obtain ⟨j, l', rfl, e', h4⟩ := onLst_of h4
  obtain ⟨hl, h5⟩ := few_le h4
  obtain ⟨a, vs, n, f, q, hT, W, sz, le⟩ := I3.lst V1 e
  obtain ⟨a', vs', n', f', rfl, hT', W', sz', le'⟩ := I3.lst V3 e'
  rw [q]
  have hz : vs.size + vs'.size ≤ sizeLine := Nat.le_trans (show vs.size + vs'.size ≤ 2000 by omega) (by decide)
  refine call_meets PySem.F.slot_list_extend ⟨_, hT, rfl⟩ PySem.F.entry_list_extend (PySem.F.args_list_extend_2 _ _) (AutoSeq1.list_extend_list_list_0 a.1 vs n a'.1 vs' n' ?_ (fits (by omega)) (by omega)) ⟨hT, hT', ?_⟩
  · have : Builtin.List.listTooLong (vs.size + vs'.size) = false := decide_eq_false (by show ¬ (_ > _); omega)
    rw [this]; simp
  have hu := hT.update fun xs => xs ++ vs'
  obtain ⟨I4, S4⟩ := I3.set e f (.inl rfl) (h' := s3.heap.update a.1 (Obj.mapSeq fun xs => xs ++ vs')) (fun b hb => Heap.get?_update_other _ _ (Ne.symm hb)) ⟨_, hu⟩
    (mo' := .lst (l ++ l')) ⟨_, _, hu, by simpa using W.append W', hl⟩
  exact ⟨μ3, .none, _, (S.trans S3).trans S4, (m.trans m3).trans Same.mk', I4, rfl, h5⟩
theorem se_rev {apos : Pos} (ho : SE g d fi o mo) (he : IsMeth o "reverse" apos pos []) : SE g d fi (.Call (.Attribute o "reverse" apos) [] [] pos) (xRev mo) := by
  intro A env μ loc st s k R En I L hm
  obtain ⟨pl, he⟩ := he env
  refine MethodCall_ (un ho R En I L hm fun v1 μ2 x st2 s2 S m I2 L2 V1 h => ?_) he
  obtain ⟨i, l, rfl, e, h1⟩ := onLst_of h
  obtain ⟨a, vs, n, f, rfl, hT, W, sz, le⟩ := I2.lst V1 e
  refine getMethod_list_of PySem.F.slot_list_reverse PySem.F.type_list_reverse hT.isList (IsL.noDict hT) ?_
  have hu := hT.update fun xs => xs.reverse
  obtain ⟨I3, S3⟩ := I2.set e f (.inl rfl) (h' := s2.heap.update a.1 (Obj.mapSeq fun xs => xs.reverse)) (fun b hb => Heap.get?_update_other _ _ (Ne.symm hb)) ⟨_, hu⟩
      (mo' := .lst l.reverse) ⟨_, _, hu, by simpa using W.reverse, by simpa using le⟩
  exact P.reverse_list hT ⟨μ2, .none, _, S.trans S3, m.trans Same.heap, I3, rfl, h1⟩ (fits (by omega))
theorem count_eq (c : Nat) (l : List Nat) : cnt c l = (countN c l : Int) := by
  induction l with
  | nil => rfl
  | cons y r ih =>
    rw [cnt_cons, ih]
    show _ = ((Bool.rec (countN c r) (Nat.succ (countN c r)) (Nat.beq y c) : Nat) : Int)
    cases q : Nat.beq y c with
    | true => have := Nat.eq_of_beq_eq_true q; rw [if_pos this]; show _ = ((countN c r + 1 : Nat) : Int); omega
    | false =>
      have : ¬ y = c := fun e => by subst e; simp at q
      rw [if_neg this]; simp
theorem se_count {x : Str} {c : Nat} {apos : Pos} {k' : Nat} {p : Pos} (hx : x = strV [c]) (ho : SE g d fi o mo) (hm' : IsMeth o "count" apos pos [.Constant (.str x) k' p]) : SE g d fi (.Call (.Attribute o "count" apos) [.Constant (.str x) k' p] [] pos) (xCount c mo) := by
  intro A env μ loc st s k R En I L hm
  obtain ⟨pl, he⟩ := hm' env
  refine MethodCall_ (un ho R En I L hm fun v1 μ2 y st2 s2 S m I2 L2 V1 h => ?_) he
  obtain ⟨l, rfl, h1⟩ := ifStr_of h
  obtain ⟨⟨t, rfl⟩, _⟩ := V1
  refine GM.count (meth1 (fun _ => rfl) (wpAny_Constant_str (PySem.SC.count ?_)))
  refine Ret.here S (m.trans Same.toks) I2 (mv := .int (.ofNat (countN c l))) ⟨s2.toks + 1, ?_⟩ h1
  · have := count_cnt (strV l) c
    subst hx
    show Value.int (Txt.count (strV l) (strV [c])) _ = _
    rw [show Txt.count (strV l) (strV [c]) = cnt c l from this, count_eq]; rfl
theorem joinK_of {l : Mine.L} {acc : List Nat} {k : List Nat → Bool} (h : joinK l acc k = true) : ∃ ss : List (List Nat), l = ss.map MV.str ∧ k (acc ++ ss.flatten) = true := by
  induction l generalizing acc with
  | nil => exact ⟨[], rfl, by have h' : k acc = true := h; simpa using h'⟩
  | cons v l ih =>
    obtain ⟨x, rfl, h1⟩ := ifStr_of (show ifStr v (fun s => joinK l (acc ++ s) k) = true from h)
    obtain ⟨ss, rfl, h2⟩ := ih h1
    exact ⟨x :: ss, rfl, by simpa using h2⟩
theorem glued_fold : ∀ (ss : List (List Nat)) (acc : List Nat), (ss.map strV).foldl (fun a p => a ++ (strV []).cps ++ p.cps) acc.toArray = (acc ++ ss.flatten).toArray
  | [], acc => by simp
  | x :: r, acc => by
    rw [List.map_cons, List.foldl_cons]
    have e : acc.toArray ++ (strV []).cps ++ (strV x).cps = (acc ++ x).toArray := by simp [strV]
    rw [e, glued_fold r]
    simp
theorem glued_nil : ∀ ss : List (List Nat), Txt.join (strV []) (ss.map strV) = strV ss.flatten
  | [] => rfl
  | x :: r => by
    show (⟨((r.map strV)).foldl (fun a p => a ++ (strV []).cps ++ p.cps) x.toArray⟩ : Str) = strV (x :: r).flatten
    rw [glued_fold r x]
    rfl
theorem se_join {x : Str} {apos : Pos} {k' : Nat} {p : Pos} (hx : x = strV []) (ho : SE g d fi e me) (hm' : IsMeth (.Constant (.str x) k' p) "join" apos pos [e]) (h1' : One e := by k_dflt (intro _; rfl)) : SE g d fi (.Call (.Attribute (.Constant (.str x) k' p) "join" apos) [e] [] pos) (xJoin me) := by
  intro A env μ loc st s k R En I L hm
  obtain ⟨pl, he⟩ := hm' env
  refine MethodCall_ (wpAny_Constant_str ?_) he
  refine GM.join (meth1 h1' (un (s := { s with toks := s.toks + 1 }) ho R En I L hm fun v1 μ2 y st2 s2 S m I2 L2 V1 h => ?_))
  obtain ⟨i, l, rfl, e, h1⟩ := onLst_of h
  obtain ⟨ss, rfl, h2⟩ := joinK_of h1
  obtain ⟨hl, h3⟩ := few_le h2
  obtain ⟨a, vs, n, f, rfl, hT, W, sz, le⟩ := I2.lst V1 e
  subst hx
  have hlen : (ss.flatten).length ≤ 1000 := by simpa using hl
  refine join_list hT.isList (strs_of W) ?_ fun t' k' => ?_
  · have : ((ss.map strV).map (·.length)).sum = ss.flatten.length := by
      rw [List.length_flatten, List.map_map]
      exact congrArg List.sum (List.map_congr_left fun z _ => strV_length z)
    show ((ss.map strV).map (·.length)).sum + (ss.map strV).length * (strV []).length ≤ _
    rw [this, strV_length]
    show ss.flatten.length + (ss.map strV).length * 0 ≤ 16777216
    omega
  · rw [glued_nil]
    exact Ret.toks S (Same.toks.trans m) I2 (mv := .str ss.flatten) ⟨⟨t', rfl⟩, hlen⟩ (by simpa using h3)
end
end Mine

open PySem PySem.W PySem.Calls PyProof.Rows
set_option Elab.async false
set_option maxRecDepth 100000
namespace Mine
/-! ## statements -/
noncomputable def LEx (env : Env) (b : Nat) : Prop := b = env.locals ∨ ∃ x, (x, b) ∈ env.cells
noncomputable def RetF (g : G) (fi : FI) (env : Env) (kn : Mine.L → Mine.St → Bool) (kr : MV → Mine.St → Bool) (kb kc : Mine.L → Mine.St → Bool) (μ : Wd) (s : Shared) (fl : Flow) (s' : Shared) : Prop :=
  ∃ μ' st', Step (LEx env) μ μ' s.heap s'.heap ∧ Same s s' ∧ Hp g μ' st' s'.heap ∧ match fl with
    | .next => ∃ loc, Lo g μ' fi env loc s'.heap ∧ kn loc st' = true
    | .brk => ∃ loc, Lo g μ' fi env loc s'.heap ∧ kb loc st' = true
    | .cont => ∃ loc, Lo g μ' fi env loc s'.heap ∧ kc loc st' = true
    | .ret v => ∃ mv, VR g μ' v mv ∧ kr mv st' = true
noncomputable def SL (g : G) (d : Nat) (fi : FI) (b : List Stmt) (m : Mine.S) : Prop :=
  ∀ (A : Around) (env : Env) (μ : Wd) (loc : Mine.L) (st : Mine.St) (s : Shared) (kn : Mine.L → Mine.St → Bool) (kr : MV → Mine.St → Bool) (kb kc : Mine.L → Mine.St → Bool), Room d A → EnvOk fi env → Hp g μ st s.heap → Lo g μ fi env loc s.heap → m loc st kn kr kb kc = true →
    wpAny (model g.prog g.w) A (execs b env) (RetF g fi env kn kr kb kc μ s) no' s
section
variable {g : G} {d : Nat} {fi : FI} {A : Around} {env : Env} {μ μ1 : Wd} {loc : Mine.L} {st : Mine.St} {s s1 : Shared} {kn : Mine.L → Mine.St → Bool} {kr : MV → Mine.St → Bool} {kb kc : Mine.L → Mine.St → Bool} {fl : Flow} {s' : Shared}
theorem RetF.after (S : Step (LEx env) μ μ1 s.heap s1.heap) (m : Same s s1) (x : RetF g fi env kn kr kb kc μ1 s1 fl s') : RetF g fi env kn kr kb kc μ s fl s' := by
  obtain ⟨μ', st', a, b, r⟩ := x; exact ⟨μ', st', S.trans a, m.trans b, r⟩
theorem Lo.here {h : Heap} (L : Lo g μ fi env loc h) : ∃ o, h.get? env.locals = some o := by obtain ⟨m, ⟨o, es, ep, e, r⟩, _⟩ := L.vars; exact ⟨o, e⟩
theorem Lo.but {h h' : Heap} {it : Nat} (L : Lo g μ fi env loc h) (k : ∀ b o, b ≠ it → h.get? b = some o → h'.get? b = some o) (n : ¬ LEx env it) : Lo g μ fi env loc h' := by
  obtain ⟨m, ⟨o, es, ep, e, r⟩, hv⟩ := L.vars
  have n1 : env.locals ≠ it := fun q => n (.inl q.symm)
  have n2 : ∀ x c, (x, c) ∈ env.cells → c ≠ it := fun x c hc q => n (.inr ⟨x, q ▸ hc⟩)
  refine ⟨L.off, L.base, fun x c hc => ?_, L.ap, m, ⟨o, es, ep, k _ _ n1 e, r⟩, fun i x hx ne => ?_⟩
  · obtain ⟨a1, a2, a3, ov, oc, ec, d⟩ := L.cell x c hc
    exact ⟨a1, a2, a3, ov, oc, k _ _ (n2 x c hc) ec, d⟩
  · obtain ⟨v, V, q⟩ := hv i x hx ne
    exact ⟨v, V, q.imp id fun ⟨k', c, hl, oc, ec, d⟩ => ⟨k', c, hl, oc, k _ _ (n2 x c (mem_of_lookup hl)) ec, d⟩⟩
noncomputable def Off (μ : Wd) (it : Nat) : Prop := ¬ Foot μ it ∧ μ.H it = none
theorem Off.step {Ex : Nat → Prop} {h h' : Heap} {it : Nat} {o : Obj} (x : Off μ it) (S : Step Ex μ μ1 h h') (e : h.get? it = some o) : Off μ1 it := by
  refine ⟨fun q => x.1 (S.foot e q), ?_⟩
  cases q : μ1.H it with
  | none => rfl
  | some o' =>
    rcases S.H' _ _ q with z | z
    · rw [x.2] at z; cases z
    · rw [e] at z; cases z
theorem Hp.offNew {h : Heap} {it : Nat} (I : Hp g μ st h) (e : h.get? it = none) : Off μ it := by
  refine ⟨fun ⟨a, ha, q⟩ => ?_, ?_⟩
  · obtain ⟨⟨o1, e1⟩, o2, e2⟩ := I.low a ha
    rcases q with rfl | rfl
    · rw [e] at e1; cases e1
    · rw [e] at e2; cases e2
  · cases q : μ.H it with
    | none => rfl
    | some o => have := I.keep _ _ q; rw [e] at this; cases this
theorem Hp.but {h h' : Heap} {it : Nat} (I : Hp g μ st h) (k : ∀ b o, b ≠ it → h.get? b = some o → h'.get? b = some o) (x : Off μ it) : Hp g μ st h' :=
  I.other fun b o e q => k b o (fun z => by subst z; exact q.elim x.1 (fun z => z x.2)) e
theorem Step.drop {Ex Ex' : Nat → Prop} {μ' : Wd} {h h1 h' : Heap} (S0 : Step Ex μ μ1 h h1) (S1 : Step Ex' μ1 μ' h1 h') (k : ∀ b, Ex' b → Ex b ∨ h.get? b = none) : Step Ex μ μ' h h' := by
  have T := (S0.weaken (Ex' := fun b => Ex b ∨ Ex' b) fun _ => .inl).trans (S1.weaken (Ex' := fun b => Ex b ∨ Ex' b) fun _ => .inr)
  refine ⟨T.ρ, T.σ, T.H, T.H', fun b o e n1 n2 => T.keep b o e n1 ?_, T.stay⟩
  rintro (q | q)
  · exact n2 q
  · rcases k b q with q | q
    · exact n2 q
    · rw [e] at q; cases q
/-- an object that was not there at first is touched -/
theorem Step.last {Ex : Nat → Prop} {h h' h'' : Heap} {it : Nat} (T : Step Ex μ μ1 h h') (k : ∀ b o, b ≠ it → h'.get? b = some o → h''.get? b = some o) (hit : h.get? it = none) : Step Ex μ μ1 h h'' := by
  have ne : ∀ b o, h.get? b = some o → b ≠ it := fun b o e q => by subst q; rw [e] at hit; cases hit
  refine ⟨T.ρ, T.σ, T.H, T.H', fun b o e n1 n2 => k b o (ne b o e) (T.keep b o e n1 n2), fun b o e => ?_⟩
  obtain ⟨o', e'⟩ := T.stay b o e
  exact ⟨o', k b o' (ne b o e) e'⟩
theorem Lo.notLEx {h : Heap} {it : Nat} (L : Lo g μ fi env loc h) (e : h.get? it = none) : ¬ LEx env it := by
  rintro (q | ⟨x, q⟩)
  · obtain ⟨o, eo⟩ := L.here; subst q; rw [e] at eo; cases eo
  · obtain ⟨_, _, _, ov, o, eo, _⟩ := L.cell x it q; rw [e] at eo; cases eo
/-- a local is stored -/
theorem Lo.put {h h' : Heap} {i : Nat} {x : Str} {v : Value} {mv : MV} {m : Str → Option Value} (nd : fi.nm.Nodup) (L : Lo g μ fi env loc h) (hx : fi.nm[i]? = some x) (V : VR g μ v mv)
    (hv : ∀ i x, fi.nm[i]? = some x → lget loc i ≠ .unb → ∃ v, VR g μ v (lget loc i) ∧ ((env.kindOf x = some .local ∧ m x = some v) ∨ (env.kindOf x = some .cell ∧ ∃ c, env.cells.lookup x = some c ∧ h.IsCell c (some v))))
    (hk : env.kindOf x = some .local) (hn : h'.Ns env.locals fun y => if y = x then some v else m y) (hs : Heap.SameBut env.locals h h') : Lo g μ fi env (lset loc i mv) h' := by
  have nc : ∀ x c, (x, c) ∈ env.cells → c ≠ env.locals := fun x c hc => (L.cell x c hc).1
  refine ⟨L.off, L.base, fun y c hc => ?_, L.ap, _, hn, fun j y hy ne => ?_⟩
  · obtain ⟨a1, a2, a3, ov, oc, ec, d⟩ := L.cell y c hc
    exact ⟨a1, a2, a3, ov, oc, (hs.2 _ (nc y c hc)).trans ec, d⟩
  · rw [lget_lset] at ne ⊢
    by_cases q : j = i
    · subst q
      rw [hx] at hy; cases hy
      rw [if_pos rfl] at ne ⊢
      exact ⟨v, V, .inl ⟨hk, if_pos rfl⟩⟩
    · rw [if_neg q] at ne ⊢
      have yx : y ≠ x := fun z => q (by
        subst z
        obtain ⟨h1, e1⟩ := List.getElem?_eq_some_iff.mp hy
        obtain ⟨h2, e2⟩ := List.getElem?_eq_some_iff.mp hx
        exact (List.getElem_inj nd).mp (e1.trans e2.symm))
      obtain ⟨w, W, z⟩ := hv j y hy ne
      refine ⟨w, W, z.imp (fun ⟨k1, e1⟩ => ⟨k1, ?_⟩) fun ⟨k1, c, hl, oc, ec, d⟩ => ⟨k1, c, hl, oc, (hs.2 _ (nc _ c (mem_of_lookup hl))).trans ec, d⟩⟩
      show (if y = x then some v else m y) = some w
      rw [if_neg yx]; exact e1
theorem Lo.putC {h h' : Heap} {i : Nat} {x : Str} {v : Value} {mv : MV} {c : Nat} (nd : fi.nm.Nodup) (L : Lo g μ fi env loc h) (hx : fi.nm[i]? = some x) (V : VR g μ v mv)
    (hk : env.kindOf x = some .cell) (hc : env.cells.lookup x = some c) (hn : h'.IsCell c (some v)) (hs : Heap.SameBut c h h') : Lo g μ fi env (lset loc i mv) h' := by
  obtain ⟨m, ⟨o, es, ep, e, r⟩, hv⟩ := L.vars
  have mc := mem_of_lookup hc
  have nl := (L.cell x c mc).1
  have cells : ∀ y c', (y, c') ∈ env.cells → (y, c') ≠ (x, c) → c' ≠ c := fun y c' hy ne q => by
    obtain ⟨i1, h1, e1⟩ := List.getElem_of_mem hy
    obtain ⟨i2, h2, e2⟩ := List.getElem_of_mem mc
    have ne' : i1 ≠ i2 := fun z => by subst z; exact ne (e1.symm.trans e2)
    rcases Nat.lt_or_gt_of_ne ne' with z | z
    · have := List.pairwise_iff_getElem.mp L.ap i1 i2 h1 h2 z; rw [e1, e2] at this; exact this q
    · have := List.pairwise_iff_getElem.mp L.ap i2 i1 h2 h1 z; rw [e1, e2] at this; exact this q.symm
  refine ⟨L.off, L.base, fun y c' hy => ?_, L.ap, m, ⟨o, es, ep, (hs.2 _ (Ne.symm nl)).trans e, r⟩, fun j y hy ne => ?_⟩
  · obtain ⟨a1, a2, a3, ov, oc, ec, d⟩ := L.cell y c' hy
    refine ⟨a1, a2, a3, ?_⟩
    by_cases z : (y, c') = (x, c)
    · cases z; exact ⟨_, hn⟩
    · exact ⟨ov, oc, (hs.2 _ (cells y c' hy z)).trans ec, d⟩
  · rw [lget_lset] at ne ⊢
    by_cases q : j = i
    · subst q
      rw [hx] at hy; cases hy
      rw [if_pos rfl] at ne ⊢
      exact ⟨v, V, .inr ⟨hk, c, hc, hn⟩⟩
    · rw [if_neg q] at ne ⊢
      have yx : y ≠ x := fun z => q (by
        subst z
        obtain ⟨h1, e1⟩ := List.getElem?_eq_some_iff.mp hy
        obtain ⟨h2, e2⟩ := List.getElem?_eq_some_iff.mp hx
        exact (List.getElem_inj nd).mp (e1.trans e2.symm))
      obtain ⟨w, W, z⟩ := hv j y hy ne
      refine ⟨w, W, z.imp id fun ⟨k1, c', hl, oc, ec, d⟩ => ⟨k1, c', hl, oc, (hs.2 _ (cells _ _ (mem_of_lookup hl) (fun z => yx (congrArg Prod.fst z)))).trans ec, d⟩⟩
theorem Step.sameBut {Ex : Nat → Prop} {c : Nat} {h h' : Heap} (hs : Heap.SameBut c h h') (hc : Ex c) (he : ∃ o, h'.get? c = some o) : Step Ex μ μ h h' := by
  refine ⟨⟨[], by simp⟩, ⟨[], by simp⟩, fun _ _ z => z, fun _ _ z => .inl z, fun b o z _ n => (hs.2 b fun q => n (q ▸ hc)).trans z, fun b o z => ?_⟩
  by_cases q : b = c
  · subst q; exact he
  · exact ⟨o, (hs.2 b q).trans z⟩
structure Set1 (g : G) (fi : FI) (env : Env) (μ : Wd) (st : Mine.St) (loc : Mine.L) (s s' : Shared) : Prop where
  S : Step (LEx env) μ μ s.heap s'.heap
  m : Same s s'
  I : Hp g μ st s'.heap
  L : Lo g μ fi env loc s'.heap
theorem Set1.trans {loc' : Mine.L} {s2 : Shared} (x : Set1 g fi env μ st loc s s1) (y : Set1 g fi env μ st loc' s1 s2) : Set1 g fi env μ st loc' s s2 := ⟨x.S.trans y.S, x.m.trans y.m, y.I, y.L⟩
theorem store {i : Nat} {x : Str} {v : Value} {mv : MV} (En : EnvOk fi env) (I : Hp g μ st s.heap) (L : Lo g μ fi env loc s.heap) (hx : fi.nm[i]? = some x) (V : VR g μ v mv) (hk : fi.sc.names.lookup x = some .local ∨ fi.sc.names.lookup x = some .cell) :
    wpAny (model g.prog g.w) A (storeName env x v) (fun _ s' => Set1 g fi env μ st (lset loc i mv) s s') no' s := by
  have hk : env.kindOf x = some .local ∨ env.kindOf x = some .cell := by show env.scope.names.lookup x = _ ∨ env.scope.names.lookup x = _; rw [En.sc]; exact hk
  have kd : env.scope.kind = .function := by rw [En.sc]; exact En.kind
  obtain ⟨m, hn, hv⟩ := id L.vars
  rcases hk with hk | hk
  · refine wpAny_storeName_local hk hn (fun h' hn' hs => ?_) (by rw [kd]; rfl)
    obtain ⟨o, es, ep, e, r⟩ := id hn'
    refine ⟨Step.sameBut hs (.inl rfl) ⟨o, e⟩, Same.mk', I.other fun b o z q => ?_, L.put En.nd hx V hv hk hn' hs⟩
    refine (hs.2 b fun q' => ?_).trans z
    subst q'; exact q.elim L.off (fun z => z L.base)
  · obtain ⟨c, hc⟩ := En.cl x hk
    obtain ⟨a1, a2, a3, ov, oc⟩ := L.cell x c (mem_of_lookup hc)
    refine wpAny_storeName_cell kd hk hc oc fun h' hn' hs => ?_
    obtain ⟨o, e, r⟩ := id hn'
    refine ⟨Step.sameBut hs (.inr ⟨x, mem_of_lookup hc⟩) ⟨o, e⟩, Same.heap, I.other fun b o z q => ?_, L.putC En.nd hx V hk hc hn' hs⟩
    refine (hs.2 b fun q' => ?_).trans z
    subst q'; exact q.elim a2 (fun z => z a3)
end
section
variable {g : G} {d : Nat} {fi : FI} {a o e : Expr} {pos : Pos} {me mo mi : Mine.X} {mr : Mine.S} {rest : List Stmt} {K : Frag}
theorem SL.run {A : Around} {env : Env} {μ μ1 : Wd} {loc : Mine.L} {st : Mine.St} {s s1 : Shared} {kn : Mine.L → Mine.St → Bool} {kr : MV → Mine.St → Bool} {kb kc : Mine.L → Mine.St → Bool} (hr : SL g d fi rest mr) (R : Room d A) (En : EnvOk fi env) (S : Step (LEx env) μ μ1 s.heap s1.heap) (m : Same s s1) (I : Hp g μ1 st s1.heap) (L : Lo g μ1 fi env loc s1.heap) (h : mr loc st kn kr kb kc = true) :
    wpAny (model g.prog g.w) A (execs rest env) (RetF g fi env kn kr kb kc μ s) no' s1 :=
  wpAny_mono (hr _ _ _ _ _ _ _ _ _ _ R En I L h) (fun _ _ z => z.after S m) fun _ _ z => z
theorem sl_nil : SL g d fi [] sNil := fun _ _ _ loc st _ _ _ _ _ _ _ I L h => wpAny_execs_nil ⟨_, st, Step.refl _ _, Same.refl _, I, loc, L, h⟩
theorem sl_bad {b : List Stmt} : SL g d fi b sBad := fun _ _ _ _ _ _ _ _ _ _ _ _ _ _ h => nomatch h
theorem sl_asg {i : Nat} {x : Str} {px : Pos} (he : SE g d fi e me) (hr : SL g d fi rest mr) (hx : fi.nm[i]? = some x) (hk : fi.sc.names.lookup x = some .local ∨ fi.sc.names.lookup x = some .cell) (hs : ∀ env, swapsWith e (some (.Name x px)) pos.line env = pure false := by k_dflt (intro _; rfl)) :
    SL g d fi (.Assign [.Name x px] e pos :: rest) (sAsg i me mr) := by
  intro A env μ loc st s kn kr kb kc R En I L h
  refine wpAny_execs_cons (wpAny_Assign_Name (un he R En I L h fun v μ2 mv st2 s2 S m I2 L2 V h => ?_) (hs env))
  refine wpAny_mono (store En I2 L2 hx V hk) (fun _ s3 T => ?_) fun _ _ z => z
  exact wpAny_mono (hr _ _ _ _ _ _ _ _ _ _ R En T.I T.L h) (fun _ _ z => (z.after T.S T.m).after S.any m) fun _ _ z => z
theorem EnvOk.quiet {env : Env} (h : EnvOk fi env) : interactive env = false := by
  unfold interactive
  rw [h.sc, h.kind]; rfl
theorem sl_ex (he : SE g d fi e me) (hr : SL g d fi rest mr) (hi : ∀ env, swapsWith e none pos.line env = pure false := by k_dflt (intro _; rfl)) : SL g d fi (.Expr e pos :: rest) (sEx me mr) := by
  intro A env μ loc st s kn kr kb kc R En I L h
  refine wpAny_execs_cons (wpAny_Expr_any (un he R En I L h fun v μ2 mv st2 s2 S m I2 L2 V h => ?_) En.quiet (hi env))
  exact wpAny_mono (hr _ _ _ _ _ _ _ _ _ _ R En I2 L2 h) (fun _ _ z => z.after S.any m) fun _ _ z => z
theorem sl_ret (he : SE g d fi e me) : SL g d fi (.Return (some e) pos :: rest) (sRet me) := by
  intro A env μ loc st s kn kr kb kc R En I L h
  refine wpAny_execs_cons (wpAny_Return_some (un he R En I L h fun v μ2 mv st2 s2 S m I2 L2 V h => ?_))
  exact ⟨μ2, st2, S.any, m, I2, mv, V, h⟩
theorem sl_retN : SL g d fi (.Return none pos :: rest) sRetN := by
  intro A env μ loc st s kn kr kb kc R En I L h
  exact wpAny_execs_cons (wpAny_Return_none ⟨μ, st, Step.refl _ _, Same.refl _, I, .none, rfl, h⟩)
theorem sl_brk : SL g d fi (.Break pos :: rest) sBrk := by
  intro A env μ loc st s kn kr kb kc R En I L h
  exact wpAny_execs_cons (wpAny_Break ⟨μ, st, Step.refl _ _, Same.refl _, I, loc, L, h⟩)
theorem sl_cont : SL g d fi (.Continue pos :: rest) sCont := by
  intro A env μ loc st s kn kr kb kc R En I L h
  exact wpAny_execs_cons (wpAny_Continue ⟨μ, st, Step.refl _ _, Same.refl _, I, loc, L, h⟩)
theorem sl_ite {t : Expr} {ba bb : List Stmt} {mt : Mine.Ts} {ma mb : Mine.S} (ht : SB g d fi t mt) (ha : SL g d fi ba ma) (hb : SL g d fi bb mb) (hr : SL g d fi rest mr) : SL g d fi (.If t ba bb pos :: rest) (sIte mt ma mb mr) := by
  intro A env μ loc st s kn kr kb kc R En I L h
  refine wpAny_execs_cons (wpAny_If (wpAny_mono (ht _ _ _ _ _ _ _ R En I L h) (fun c s1 h1 => ?_) fun _ _ z => z))
  obtain ⟨μ1, st1, S1, m1, I1, h1⟩ := h1
  have L1 := L.step S1
  have go : ∀ fl s2, RetF g fi env (fun loc st => mr loc st kn kr kb kc) kr kb kc μ1 s1 fl s2 → (match fl with | .next => wpAny (model g.prog g.w) A (execs rest env) (RetF g fi env kn kr kb kc μ s) no' s2 | f => RetF g fi env kn kr kb kc μ s f s2) := by
    intro fl s2 h2
    obtain ⟨μ2, st2, S2, m2, I2, h2⟩ := h2
    cases fl with
    | next =>
      obtain ⟨loc2, L2, h2⟩ := h2
      exact wpAny_mono (hr _ _ _ _ _ _ _ _ _ _ R En I2 L2 h2) (fun _ _ z => (z.after S2 m2).after S1.any m1) fun _ _ z => z
    | _ => exact ⟨μ2, st2, S1.any.trans S2, m1.trans m2, I2, h2⟩
  cases c with
  | true => exact wpAny_mono (ha _ _ _ _ _ _ _ _ _ _ R En I1 L1 h1) go fun _ _ z => z
  | false => exact wpAny_mono (hb _ _ _ _ _ _ _ _ _ _ R En I1 L1 h1) go fun _ _ z => z
theorem sl_asgA {at_ : Nat} {name : Str} {px : Pos} (C : Top0 g K) (hn : attrS[at_]? = some name) (ho : SE g d fi o mo) (he : SE g d fi e me) (hr : SL g d fi rest mr) (hs : ∀ env, swapsWith e (some (.Attribute o name px)) pos.line env = pure false := by k_dflt (intro _; rfl)) :
    SL g d fi (.Assign [.Attribute o name px] e pos :: rest) (sAsgA mo at_ me mr) := by
  intro A env μ loc st s kn kr kb kc R En I L h
  refine wpAny_execs_cons (plainObj_wpAny_Assign_Attribute (bin he ho R En I L h fun v x μ2 mv mx st2 s2 S m I2 L2 V X h => ?_) (hs env))
  obtain ⟨i, rfl, h1⟩ := ifOwn_of h
  obtain ⟨ob, e', h2⟩ := withObj_of h1
  obtain ⟨c, fs, rfl, h3⟩ := insOr_of h2
  obtain ⟨hl, h4⟩ := few_le h3
  obtain ⟨b, es, n, f, rfl, ne, e1, e2, W, le, hc⟩ := I2.ins X e'
  have W' := putL_fput (t := s2.toks + 1) hn rfl V W
  refine set_raw (C.in_ I2) e1 e2 (getL_isSome W) (C.cls c hc name (List.mem_of_getElem? hn)) (by rw [W'.length]; exact hl) fun h' k1 k2 => ?_
  obtain ⟨I3, S3⟩ := I2.set (h' := h') (mo' := .inst c (fput fs at_ mv)) e' f (.inr rfl) k1 ⟨_, k2⟩ ⟨ne, _, _, (k1 _ ne).trans e1, k2, W', hl, hc⟩
  exact hr.run (s1 := { s2 with heap := h', toks := s2.toks + 2 }) R En (S.any.trans S3.any) (m.trans Same.mk') I3 (L2.step S3) h4
theorem sl_augA {at_ : Nat} {name : Str} {px : Pos} {cc : Nat} {k' : Nat} {p : Pos} (C : Top0 g K) (hn : attrS[at_]? = some name) (ho : SE g d fi o mo) (hr : SL g d fi rest mr) :
    SL g d fi (.AugAssign (.Attribute o name px) .Add (.Constant (.int cc) k' p) pos :: rest) (sAugA mo at_ cc mr) := by
  intro A env μ loc st s kn kr kb kc R En I L h
  refine wpAny_execs_cons (wpAny_AugAssign_AttributeAny (un ho R En I L h fun x μ2 mx st2 s2 S m I2 L2 X h => ?_))
  obtain ⟨i, rfl, h1⟩ := ifOwn_of h
  obtain ⟨ob, e', h2⟩ := withObj_of h1
  obtain ⟨c, fs, rfl, h3⟩ := insOr_of h2
  obtain ⟨iv, q, h4⟩ := ifInt_of h3
  obtain ⟨hl, h5⟩ := few_le h4
  refine getA C I2 X e' hn (by rw [q]; simp) fun v V => ?_
  rw [q] at V
  obtain ⟨t, rfl⟩ := V
  refine wpAny_Constant_int (iadd_int ?_)
  obtain ⟨b, es, n, f, rfl, ne, e1, e2, W, le, hc⟩ := I2.ins X e'
  have W' := putL_fput (t := s2.toks + 1 + 1 + 1 + 1) (v := .int (iv + cc) (s2.toks + 1 + 1)) (mv := .int (addI iv (.ofNat cc))) hn rfl ⟨_, by rw [addI_eq]; rfl⟩ W
  refine set_raw (C.in_ I2) e1 e2 (getL_isSome W) (C.cls c hc name (List.mem_of_getElem? hn)) (by rw [W'.length]; exact hl) fun h' k1 k2 => ?_
  obtain ⟨I3, S3⟩ := I2.set (h' := h') (mo' := .inst c (fput fs at_ (.int (addI iv (.ofNat cc))))) e' f (.inr rfl) k1 ⟨_, k2⟩ ⟨ne, _, _, (k1 _ ne).trans e1, k2, W', hl, hc⟩
  exact hr.run (s1 := { s2 with heap := h', toks := _ }) R En (S.any.trans S3.any) (m.trans Same.mk') I3 (L2.step S3) h5
end
end Mine

open PySem PySem.W PySem.Calls PyProof.Rows
set_option Elab.async false
set_option maxRecDepth 100000
namespace Mine
/-! ## statements: subscripts, tuples of names, loops -/
section
variable {prog : Program} {w : World} {A : Around} {E : Value → Shared → Prop} {s : Shared}
theorem set_lst {l : Nat} {items : Array Value} {n : Nat} {k : Int} {t : Tok} {v : Value} {Q : Unit → Shared → Prop} (hl : IsL s.heap l items n) (h0 : 0 ≤ k) (hfit : k < 2 ^ 63) (hn : k < items.size)
    (h : Q () { s with heap := s.heap.update l (Obj.mapSeq fun xs => xs.setIfInBounds k.toNat v) }) : wpAny (model prog w) A (setItem (.ref l) (.int k t) v) Q E s := by
  have hT : s.TypeIs (.ref l) "list" := ⟨_, hl, rfl⟩
  unfold setItem
  try with_reducible refine wpAny_holding ?_
  first | refine wpAny_bind (wpAny_pure ?_) | skip
  refine wpAny_bind (wpAny_sequenceKey hT (by decide) ?_)
  refine wpAny_bind (wpAny_callSpecial?_slot (name := Str.ofString "__setitem__") hT slot_list_setitem (wpAny_call_entry slot_list_setitem hT entry_list_setitem ?_ (args_list_setitem _ _ _)))
  show wpAny _ _ (Builtin.List.listSubscript? (.int k t) >>= _) _ _ s
  refine wpAny_bind (wpAny_listSubscript_int (fitsIndex_of h0 hfit) ?_)
  clear hfit
  obtain ⟨j, rfl⟩ := Int.eq_ofNat_of_zero_le h0
  have hj : j < items.size := by omega
  have hx : items[j]? = some items[j] := Array.getElem?_eq_getElem hj
  show wpAny _ _ ((seqItemAt l j >>= fun r => pure (r.map (j, ·))) >>= _) _ _ s
  refine wpAny_bind (wpAny_bind (wpAny_seqItemAt hl rfl (wpAny_pure ?_)))
  rw [hx]
  show wpAny _ _ (setSeqItemAt l j v >>= _) _ _ s
  refine wpAny_bind (wpAny_setSeqItemAt hl rfl ?_)
  first
    | exact wpAny_bind (wpAny_pure (wpAny_pure ⟨.none, rfl, wpAny_pure h⟩))
    | exact wpAny_pure ⟨.none, rfl, wpAny_pure h⟩
end
section
variable {g : G} {μ : Wd} {d : Nat} {fi : FI} {o e i : Expr} {pos : Pos} {me mo mi : Mine.X} {mr : Mine.S} {rest : List Stmt} {K : Frag}
theorem stored_dput {kvs : List (Str × Value)} {fs : List (List Nat × MV)} {x : List Nat} {v : Value} {mv : MV} (V : VR g μ v mv) (W : All2 (DR g μ) kvs fs) (nd : (kvs.map (·.1)).Nodup) : All2 (DR g μ) (stored kvs (strV x) v) (dput fs x mv) := by
  have no : ∀ {kvs : List (Str × Value)}, (∀ kv ∈ kvs, kv.1 ≠ strV x) → kvs.map (fun kv => if kv.1 = strV x then (kv.1, v) else kv) = kvs := fun {kvs} h => by
    conv => rhs; rw [← List.map_id kvs]
    exact List.map_congr_left fun kv hk => by rw [if_neg (h kv hk)]; rfl
  induction W with
  | nil => exact .cons ⟨rfl, V⟩ .nil
  | @cons kv p kvs fs r W ih =>
    have hf : dput (p :: fs) x mv = (Bool.rec (p :: dput fs x mv) ((x, mv) :: fs) (strB p.1 x) : List (List Nat × MV)) := rfl
    rw [hf]
    rw [List.map_cons, List.nodup_cons] at nd
    cases q : strB p.1 x with
    | true =>
      have q' := (strB_iff _ _).mp q
      have e1 : kv.1 = strV x := by rw [r.1, q']
      have ks : ∀ z ∈ kvs, z.1 ≠ strV x := fun z hz c => nd.1 (by rw [e1, ← c]; exact List.mem_map_of_mem hz)
      unfold stored
      rw [List.any_cons, show decide (kv.1 = strV x) = true from decide_eq_true e1, Bool.true_or, if_pos rfl, List.map_cons, if_pos e1, no ks]
      exact .cons ⟨e1, V⟩ W
    | false =>
      have q' : kv.1 ≠ strV x := fun c => by
        rw [r.1] at c
        rw [(strB_iff _ _).mpr (strV_inj.mp c)] at q; cases q
      have ih := ih nd.2
      unfold stored at ih ⊢
      rw [List.any_cons, show decide (kv.1 = strV x) = false from decide_eq_false q', Bool.false_or, List.map_cons, if_neg q']
      split at ih
      · rename_i h1; rw [if_pos h1]; exact .cons r ih
      · rename_i h1; rw [if_neg h1]; exact .cons r ih
theorem sl_asgI {px : Pos} (ho : SE g d fi o mo) (hi : SE g d fi i mi) (he : SE g d fi e me) (hr : SL g d fi rest mr) (hs : ∀ env, swapsWith e (some (.Subscript o i px)) pos.line env = pure false := by k_dflt (intro _; rfl)) :
    SL g d fi (.Assign [.Subscript o i px] e pos :: rest) (sAsgI mo mi me mr) := by
  intro A env μ loc st s kn kr kb kc R En I L h
  refine wpAny_execs_cons (wpAny_Assign_Subscript (un he R En I L h fun v μ2 mv st2 s2 S m I2 L2 V h => ?_) (hs env))
  refine bin ho hi R En I2 L2 h fun vo vi μ3 xo xi st3 s3 S3 m3 I3 L3 Vo Vi h3 => ?_
  have V := V.step S3
  obtain ⟨j, rfl, h4⟩ := ifOwn_of h3
  obtain ⟨ob, e', h5⟩ := withObj_of h4
  cases ob with
  | lst l =>
    obtain ⟨n, rfl, h6⟩ := natV_of h5
    rcases bool_of h6 with ⟨hj, h7⟩ | ⟨_, h7⟩
    case inr => cases h7
    have hj := Nat.le_of_ble_eq_true hj
    obtain ⟨t, rfl⟩ := Vi
    obtain ⟨a, vs, n', f, rfl, hT, W, sz, le⟩ := I3.lst Vo e'
    have hu := hT.update fun xs => xs.setIfInBounds n v
    obtain ⟨I4, S4⟩ := I3.set e' f (.inl rfl) (h' := s3.heap.update a.1 (Obj.mapSeq fun xs => xs.setIfInBounds n v)) (fun b hb => Heap.get?_update_other _ _ (Ne.symm hb)) ⟨_, hu⟩
      (mo' := .lst (lset l n mv)) ⟨_, _, hu, by rw [lset_eq hj]; simpa using W.set V n, by rw [lset_eq hj]; simpa using le⟩
    refine set_lst hT (by omega) (by omega) (by omega) (hr.run (s1 := { s3 with heap := _ }) R En ((S.trans S3).any.trans S4.any) ((m.trans m3).trans Same.heap) I4 (L3.step S4) h7)
  | dct fs =>
    obtain ⟨x, rfl, h6⟩ := ifStr_of h5
    obtain ⟨hl, h7⟩ := few_le h6
    obtain ⟨⟨t, rfl⟩, _⟩ := Vi
    obtain ⟨a, f, rfl, kvs, D, W, le⟩ := I3.got Vo e'
    have nd := D.choose_spec.choose_spec.choose_spec.2.2.2.2.2
    refine wpAny_setItem_pairs (knd := PySem.strKind g.prog g.w) (strKind_is _ _ _ _) D (fun h' D' hs => ?_) (by rw [W.length]; exact fits le)
    have W' := stored_dput (x := x) V W nd
    obtain ⟨o', es, ep, e1, r⟩ := id D'
    obtain ⟨I4, S4⟩ := I3.set (h' := h') e' f (.inl rfl) hs.2 ⟨_, e1⟩ (mo' := .dct (dput fs x mv)) ⟨_, D', W', hl⟩
    exact hr.run (s1 := { s3 with heap := h', toks := _ }) R En ((S.trans S3).any.trans S4.any) ((m.trans m3).trans Same.mk') I4 (L3.step S4) h7
  | _ => cases h5
noncomputable def okN (fi : FI) (x : Str) (i : Nat) : Bool := fi.nm[i]? == some x && (fi.sc.names.lookup x == some .local || fi.sc.names.lookup x == some .cell)
theorem okN_of {x : Str} {i : Nat} (h : okN fi x i = true) : fi.nm[i]? = some x ∧ (fi.sc.names.lookup x = some .local ∨ fi.sc.names.lookup x = some .cell) := by
  unfold okN at h
  simpa using h
noncomputable def okT (fi : FI) : List Str → List Nat → Bool
  | [], [] => true
  | x :: xs, i :: is => okN fi x i && okT fi xs is
  | _, _ => false
theorem stores {α : Type} (nm : α → Str) (f : α → Value → Sem Unit) {A : Around} {env : Env} (En : EnvOk fi env) (hf : ∀ p v Q s, wpAny (model g.prog g.w) A (storeName env (nm p) v) Q no' s → wpAny (model g.prog g.w) A (f p v) Q no' s) {st : Mine.St} {k : Mine.L → Bool} :
    ∀ (xs : List α) (is : List Nat) (vs : List Value) (l : Mine.L) (loc : Mine.L) (s : Shared), okT fi (xs.map nm) is = true → All2 (VR g μ) vs l → Hp g μ st s.heap → Lo g μ fi env loc s.heap → unp is l loc k = true →
      wpAny (model g.prog g.w) A (assignInOrder (xs.map f) vs) (fun _ s' => ∃ loc', Set1 g fi env μ st loc' s s' ∧ k loc' = true) no' s := by
  intro xs
  induction xs with
  | nil =>
    intro is vs l loc s hk W I L h
    cases is with
    | cons i is => cases hk
    | nil =>
      cases W with
      | nil => exact wpAny_pure ⟨loc, ⟨Step.refl _ _, Same.refl _, I, L⟩, h⟩
      | cons V W => cases h
  | cons x xs ih =>
    intro is vs l loc s hk W I L h
    cases is with
    | nil => cases hk
    | cons i is =>
      cases W with
      | nil => cases h
      | @cons v mv vs l V W =>
        obtain ⟨k1, k2⟩ := Bool.and_eq_true_iff.mp (show (okN fi (nm x) i && okT fi (xs.map nm) is) = true from hk)
        obtain ⟨k3, k4⟩ := okN_of k1
        have h' := (okK_of (show okK mv (fun v => unp is l (lset loc i v) k) = true from h)).2
        show wpAny _ _ (do holding vs (f x v); assignInOrder (xs.map f) vs) _ _ _
        refine wpAny_bind (wpAny_holding (hf _ _ _ _ (wpAny_mono (store En I L k3 V k4) (fun _ s1 T => ?_) fun _ _ z => z)))
        refine wpAny_mono (ih is vs l _ s1 k2 W T.I T.L h') (fun _ s2 z => ?_) fun _ _ z => z
        obtain ⟨loc', T', q⟩ := z
        exact ⟨loc', T.trans T', q⟩
theorem unp_len {k : Mine.L → Bool} : ∀ {is : List Nat} {l loc : Mine.L}, unp is l loc k = true → is.length = l.length
  | [], [], _, _ => rfl
  | [], _ :: _, _, h => nomatch h
  | _ :: _, [], _, h => nomatch h
  | i :: is, mv :: l, loc, h => by
    have h' : okK mv (fun v => unp is l (lset loc i v) k) = true := h
    obtain ⟨-, h'⟩ := okK_of h'
    simp [unp_len h']
theorem okT_len : ∀ {xs : List Str} {is : List Nat}, okT fi xs is = true → xs.length = is.length
  | [], [], _ => rfl
  | [], _ :: _, h => nomatch h
  | _ :: _, [], h => nomatch h
  | x :: xs, i :: is, h => by
    have h' : (okN fi x i && okT fi xs is) = true := h
    simp [okT_len (Bool.and_eq_true_iff.mp h').2]
/-- a target of a for -/
noncomputable def TG (g : G) (d : Nat) (fi : FI) (t : Expr) (bd : MV → Mine.L → Mine.St → (Mine.L → Bool) → Bool) : Prop :=
  ∀ (A : Around) (env : Env) (μ : Wd) (v : Value) (mv : MV) (loc : Mine.L) (st : Mine.St) (s : Shared) (k : Mine.L → Bool), Room d A → EnvOk fi env → Hp g μ st s.heap → Lo g μ fi env loc s.heap → VR g μ v mv → bd mv loc st k = true →
    wpAny (model g.prog g.w) A (assign t env v) (fun _ s' => ∃ loc', Set1 g fi env μ st loc' s s' ∧ k loc' = true) no' s
theorem tg_name {x : Str} {i : Nat} {px : Pos} (hk : okN fi x i = true) : TG g d fi (.Name x px) (bind1 i) := by
  intro A env μ v mv loc st s k R En I L V h
  obtain ⟨-, h'⟩ := okK_of h
  obtain ⟨k3, k4⟩ := okN_of hk
  exact assign_Name (wpAny_mono (store En I L k3 V k4) (fun _ s1 T => ⟨_, T, h'⟩) fun _ _ z => z)
theorem assignEach_names (env : Env) : ∀ xs : List (Str × Pos), assignEach (xs.map fun p => .Name p.1 p.2) env = xs.map fun p => (false, assign (.Name p.1 p.2) env)
  | [] => rfl
  | p :: xs => by rw [List.map_cons, List.map_cons, ← assignEach_names env xs]; rfl
theorem tg_tup {xs : List (Str × Pos)} {is : List Nat} {k' : Nat} {px : Pos} (hk : okT fi (xs.map (·.1)) is = true) : TG g d fi (.Tuple (xs.map fun p => .Name p.1 p.2) k' px) (bindT is) := by
  intro A env μ v mv loc st s k R En I L V h
  obtain ⟨j, rfl, h1⟩ := ifOwn_of h
  obtain ⟨ob, e, h2⟩ := withObj_of h1
  obtain ⟨l, rfl, h3⟩ := tupOr_of h2
  obtain ⟨a, vs, f, rfl, hT, W, sz, le⟩ := I.tup V e
  have ln := unp_len h3
  have ln' := okT_len hk
  refine assign_Tuple_tuple R.1 hT ?_ ?_ fun h' k' => ?_
  · rw [assignEach_names, List.length_map, sz, ← ln, ← ln', List.length_map]
  · rw [assignEach_names, List.findIdx?_eq_none_iff]
    intro x hx
    obtain ⟨p, _, rfl⟩ := List.mem_map.mp hx
    rfl
  · have kk : ∀ b o, s.heap.get? b = some o → h'.get? b = some o := fun b o e => k' b o (fun q => by subst q; rw [none_at] at e; cases e) e
    have off : ¬ LEx env s.heap.objs.size := L.notLEx (none_at _)
    have T0 : Set1 g fi env μ st loc s { s with heap := h' } := ⟨⟨⟨[], by simp⟩, ⟨[], by simp⟩, fun _ _ z => z, fun _ _ z => .inl z, fun b o z _ _ => kk b o z, fun b o z => ⟨o, kk b o z⟩⟩, Same.heap, I.other fun b o z _ => kk b o z, L.but (fun b o _ z => kk b o z) off⟩
    rw [assignEach_names, List.map_map]
    refine wpAny_mono (stores (fun p : Str × Pos => p.1) (fun p => assign (.Name p.1 p.2) env) En (fun p v Q s z => assign_Name z) xs is vs.toList l loc { s with heap := h' } hk W T0.I T0.L h3) (fun _ s2 z => ?_) fun _ _ z => z
    obtain ⟨loc', T', q⟩ := z
    exact ⟨loc', T0.trans T', q⟩
theorem sl_asgT {xs : List (Str × Pos)} {is : List Nat} {k' : Nat} {px : Pos} (hk : okT fi (xs.map (·.1)) is = true) (he : SE g d fi e me) (hr : SL g d fi rest mr)
    (hs : ∀ env, swapsWithSole [.Tuple (xs.map fun p => .Name p.1 p.2) k' px] e pos.line env = pure false) (hw : ∀ env, env.scope = fi.sc → swappedStores [.Tuple (xs.map fun p => .Name p.1 p.2) k' px] e env = pure none) :
    SL g d fi (.Assign [.Tuple (xs.map fun p => .Name p.1 p.2) k' px] e pos :: rest) (sAsgT is me mr) := by
  intro A env μ loc st s kn kr kb kc R En I L h
  refine wpAny_execs_cons (PyProof.Rows.Assign_Tuple (un he R En I L h fun v μ2 mv st2 s2 S m I2 L2 V h => ?_) (hs env) (hw env En.sc))
  refine wpAny_mono (tg_tup hk A env μ2 v mv loc st2 s2 _ R En I2 L2 V h) (fun _ s3 z => ?_) fun _ _ z => z
  obtain ⟨loc', T, q⟩ := z
  exact hr.run R En (S.any.trans T.S) (m.trans T.m) T.I T.L q
theorem sl_asgR {xs : List (Str × Pos)} {is : List Nat} {k' : Nat} {px : Pos} (hk : okT fi (xs.map (·.1)).reverse is = true) (he : SE g d fi e me) (hr : SL g d fi rest mr)
    (hs : ∀ env, swapsWithSole [.Tuple (xs.map fun p => .Name p.1 p.2) k' px] e pos.line env = pure false) (hw : ∀ env, env.scope = fi.sc → swappedStores [.Tuple (xs.map fun p => .Name p.1 p.2) k' px] e env = pure (some (xs.map (·.1)))) :
    SL g d fi (.Assign [.Tuple (xs.map fun p => .Name p.1 p.2) k' px] e pos :: rest) (sAsgR is me mr) := by
  intro A env μ loc st s kn kr kb kc R En I L h
  refine wpAny_execs_cons (PyProof.Rows.Assign_Tuple_swapped (names := xs.map (·.1)) (un he R En I L h fun v μ2 mv st2 s2 S m I2 L2 V h => ?_) (hs env) (hw env En.sc))
  obtain ⟨j, rfl, h1⟩ := ifOwn_of h
  obtain ⟨ob, e', h2⟩ := withObj_of h1
  obtain ⟨l, rfl, h3⟩ := tupOr_of h2
  obtain ⟨a, vs, f, rfl, hT, W, sz, le⟩ := I2.tup V e'
  have ln := unp_len h3
  have ln' := okT_len hk
  have hn : (xs.map (·.1)).length = vs.size := by rw [sz]; simp at ln ln' ⊢; omega
  rw [hn]
  refine PyProof.Rows.unpackItems_tuple R.1 hT fun h' k' => ?_
  have kk : ∀ b o, s2.heap.get? b = some o → h'.get? b = some o := fun b o e => k' b o (fun q => by subst q; rw [none_at] at e; cases e) e
  have off : ¬ LEx env s2.heap.objs.size := L2.notLEx (none_at _)
  have T0 : Set1 g fi env μ2 st2 loc s2 { s2 with heap := h' } := ⟨⟨⟨[], by simp⟩, ⟨[], by simp⟩, fun _ _ z => z, fun _ _ z => .inl z, fun b o z _ _ => kk b o z, fun b o z => ⟨o, kk b o z⟩⟩, Same.heap, I2.other fun b o z _ => kk b o z, L2.but (fun b o _ z => kk b o z) off⟩
  refine wpAny_mono (stores (fun x : Str => x) (fun n => bindName env n) En (fun p v Q s z => bindName_ z) (xs.map (·.1)).reverse is vs.toList.reverse l.reverse loc { s2 with heap := h' } (by rw [List.map_id']; exact hk) W.reverse T0.I T0.L h3) (fun _ s3 z => ?_) fun _ _ z => z
  obtain ⟨loc', T', q⟩ := z
  have T := T0.trans T'
  exact hr.run R En (S.any.trans T.S) (m.trans T.m) T.I T.L q
end
end Mine

open PySem PySem.W PySem.Calls PyProof.Rows
set_option Elab.async false
set_option maxRecDepth 100000
namespace Mine
/-! ## loops -/
section
variable {g : G} {d : Nat} {fi : FI} {e : Expr} {pos : Pos} {me : Mine.X} {mr mb : Mine.S} {rest body : List Stmt} {K : Frag}
/-- what follows a loop -/
theorem SL.next {A : Around} {env : Env} {μ : Wd} {s : Shared} {kn : Mine.L → Mine.St → Bool} {kr : MV → Mine.St → Bool} {kb kc : Mine.L → Mine.St → Bool} (hr : SL g d fi rest mr) (R : Room d A) (En : EnvOk fi env) (fl : Flow) (s2 : Shared) {kb' kc' : Mine.L → Mine.St → Bool} (hb : fl ≠ .brk) (hc : fl ≠ .cont)
    (h : RetF g fi env (fun loc st => mr loc st kn kr kb kc) kr kb' kc' μ s fl s2) : (match (generalizing := false) fl with | .next => wpAny (model g.prog g.w) A (execs rest env) (RetF g fi env kn kr kb kc μ s) no' s2 | f => RetF g fi env kn kr kb kc μ s f s2) := by
  obtain ⟨μ2, st2, S2, m2, I2, h2⟩ := h
  cases fl with
  | next =>
    obtain ⟨loc2, L2, h2⟩ := h2
    exact hr.run R En S2 m2 I2 L2 h2
  | brk => exact absurd rfl hb
  | cont => exact absurd rfl hc
  | ret v => exact ⟨μ2, st2, S2, m2, I2, h2⟩
noncomputable def WhlAt (g : G) (fi : FI) (env : Env) (μ : Wd) (s0 : Shared) (mt : Mine.Ts) (mb : Mine.S) (kn : Mine.L → Mine.St → Bool) (kr : MV → Mine.St → Bool) (n : Nat) (s : Shared) : Prop :=
  ∃ μ1 loc st, Step (LEx env) μ μ1 s0.heap s.heap ∧ Same s0 s ∧ Hp g μ1 st s.heap ∧ Lo g μ1 fi env loc s.heap ∧ whl mt mb n loc st kn kr = true
theorem sl_whl {n : Nat} {t : Expr} {mt : Mine.Ts} (ht : SB g d fi t mt) (hb : SL g d fi body mb) (hr : SL g d fi rest mr) : SL g d fi (.While t body [] pos :: rest) (sWhl n mt mb mr) := by
  intro A env μ loc st s kn kr kb kc R En I L h
  refine wpAny_execs_cons (wpAny_While (codeAny_mono (R := fun r s' => ∃ fl, r = .ok fl ∧ fl ≠ .brk ∧ fl ≠ .cont ∧ RetF g fi env (fun loc st => mr loc st kn kr kb kc) kr kb kc μ s fl s')
    (codeAny_whileLoop (WhlAt g fi env μ s mt mb (fun loc st => mr loc st kn kr kb kc) kr) (fun n s1 h1 => ?_) n ⟨μ, loc, st, Step.refl _ _, Same.refl _, I, L, h⟩) fun r s' h' => ?_))
  · obtain ⟨μ1, loc1, st1, S1, m1, I1, L1, h1⟩ := h1
    cases n with
    | zero => cases h1
    | succ n =>
      have h1 : (mt loc1 st1 fun c st => Bool.rec (mr loc1 st kn kr kb kc) (mb loc1 st (fun loc st => whl mt mb n loc st (fun loc st => mr loc st kn kr kb kc) kr) kr (fun loc st => mr loc st kn kr kb kc) (fun loc st => whl mt mb n loc st (fun loc st => mr loc st kn kr kb kc) kr)) c) = true := h1
      refine wpAny_mono (ht _ _ _ _ _ _ _ R En I1 L1 h1) (fun c s2 h2 => ?_) fun _ _ z => z.elim
      obtain ⟨μ2, st2, S2, m2, I2, h2⟩ := h2
      have L2 := L1.step S2
      cases c with
      | false =>
        simp only [Bool.false_eq_true, if_false]
        exact wpAny_execs_nil ⟨.next, rfl, by simp, by simp, μ2, st2, S1.trans S2.any, m1.trans m2, I2, loc1, L2, h2⟩
      | true =>
        simp only [if_true]
        refine wpAny_mono (hb _ _ _ _ _ _ _ _ _ _ R En I2 L2 h2) (fun fl s3 h3 => ?_) fun _ _ z => z.elim
        obtain ⟨μ3, st3, S3, m3, I3, h3⟩ := h3
        have T := (S1.trans S2.any).trans S3
        have tm := (m1.trans m2).trans m3
        cases fl with
        | next => obtain ⟨loc3, L3, h3⟩ := h3; exact ⟨n, Nat.lt_succ_self _, μ3, loc3, st3, T, tm, I3, L3, h3⟩
        | cont => obtain ⟨loc3, L3, h3⟩ := h3; exact ⟨n, Nat.lt_succ_self _, μ3, loc3, st3, T, tm, I3, L3, h3⟩
        | brk => obtain ⟨loc3, L3, h3⟩ := h3; exact ⟨.next, rfl, by simp, by simp, μ3, st3, T, tm, I3, loc3, L3, h3⟩
        | ret v => obtain ⟨mv, V, h3⟩ := h3; exact ⟨.ret v, rfl, by simp, by simp, μ3, st3, T, tm, I3, mv, V, h3⟩
  · obtain ⟨fl, rfl, n1, n2, h'⟩ := h'
    exact SL.next hr R En fl s' n1 n2 h'
noncomputable def ForAt (g : G) (fi : FI) (env : Env) (μ : Wd) (s0 : Shared) (it a : Nat) (bd : MV → Mine.L → Mine.St → (Mine.L → Bool) → Bool) (x : Nat) (mb : Mine.S) (kn : Mine.L → Mine.St → Bool) (kr : MV → Mine.St → Bool) (n : Nat) (s : Shared) : Prop :=
  ∃ μ1 loc st i, Step (fun b => LEx env b ∨ b = it) μ μ1 s0.heap s.heap ∧ Same s0 s ∧ Hp g μ1 st s.heap ∧ Lo g μ1 fi env loc s.heap ∧ Off μ1 it ∧ s.heap.IsListIter it a i ∧ (∃ b, μ1.ρ[x]? = some b ∧ b.1 = a) ∧ forL bd x mb n i loc st kn kr = true
theorem for_list {n x : Nat} {t : Expr} {bd : MV → Mine.L → Mine.St → (Mine.L → Bool) → Bool} {A : Around} {env : Env} {μ μ1 : Wd} {loc : Mine.L} {st : Mine.St} {s s1 : Shared} {kn : Mine.L → Mine.St → Bool} {kr : MV → Mine.St → Bool} {kb kc : Mine.L → Mine.St → Bool} {v : Value}
    (ht : TG g d fi t bd) (hb : SL g d fi body mb) (R : Room d A) (En : EnvOk fi env) (S : Step (LEx env) μ μ1 s.heap s1.heap) (m : Same s s1) (I : Hp g μ1 st s1.heap) (L : Lo g μ1 fi env loc s1.heap) (V : VR g μ1 v (.own x)) (hl : ∀ it v, letOwnedTupleGo t it v = pure () ∨ ∃ es k p, t = .Tuple es k p)
    (h : forL bd x mb n 0 loc st kn kr = true) {Q : Flow → Shared → Prop} (hQ : ∀ fl s', fl ≠ .brk → fl ≠ .cont → RetF g fi env kn kr kb kc μ s fl s' → Q fl s') :
    wpAny (model g.prog g.w) A (pyIter v) (fun it s2 => codeAny (model g.prog g.w) A (.forLoop t it body [] env) (fun r s' => match r with | .ok f => Q f s' | .error e => cameBackBy (model g.prog g.w) A env no' e s') s2) no' s1 := by
  cases n with
  | zero => cases h
  | succ n0 =>
  obtain ⟨o, e, h0⟩ := withObj_of (show withObj st x _ = true from h)
  obtain ⟨l, rfl, -⟩ := lstOr_of h0
  obtain ⟨a, vs, nn, f, rfl, hT, -, -, -⟩ := I.lst V e
  refine wpAny_pyIter_list hT.isList ?_
  obtain ⟨I2, S2⟩ := I.junk { cls := .type "list_iterator", data := .fields #[.ref a.1, .int 0 0] }
  have L2 := L.step S2
  have of2 : Off μ1 s1.heap.objs.size := I.offNew (none_at _)
  have noL : ¬ LEx env s1.heap.objs.size := L.notLEx (none_at _)
  have base : ∀ b o, s.heap.get? b = some o → b ≠ s1.heap.objs.size := fun b o e q => by
    obtain ⟨o', e'⟩ := S.stay b o e
    subst q; rw [none_at] at e'; cases e'
  have itn : s.heap.get? s1.heap.objs.size = none := by
    cases q : s.heap.get? s1.heap.objs.size with
    | none => rfl
    | some o => exact absurd rfl (base _ o q)
  refine codeAny_mono (R := fun r s' => ∃ fl, r = .ok fl ∧ fl ≠ .brk ∧ fl ≠ .cont ∧ RetF g fi env kn kr kb kc μ s fl s')
    (codeAny_forLoop_any (ForAt g fi env μ s s1.heap.objs.size a.1 bd x mb kn kr) (fun n s3 h3 => ?_) (n0 + 1) ?_) fun r s' h' => by obtain ⟨fl, rfl, n1, n2, h'⟩ := h'; exact hQ fl s' n1 n2 h'
  · obtain ⟨μ3, loc3, st3, i, S3, m3, I3, L3, o3, it3, ⟨b, f3, fa⟩, h3⟩ := h3
    cases n with
    | zero => cases h3
    | succ n =>
      obtain ⟨o, e, h4⟩ := withObj_of (show withObj st3 x _ = true from h3)
      obtain ⟨l, rfl, h5⟩ := lstOr_of h4
      obtain ⟨b', vs, nn, f', e5, hT, W, sz, le⟩ := I3.lst (v := .ref b.1) ⟨b, f3, rfl⟩ e
      rw [f3] at f'; cases f'
      have hT : IsL s3.heap a.1 vs nn := fa ▸ hT
      have wk : ∀ {b : Nat}, (fun b => LEx env b ∨ b = s1.heap.objs.size) b → LEx env b ∨ s.heap.get? b = none := fun {b} q => q.imp id fun z => by rw [z]; exact itn
      rcases bool_of h5 with ⟨hj, h6⟩ | ⟨hj, h6⟩
      · have hj := Nat.le_of_ble_eq_true hj
        have eg : l[i]? = some (l[i]'hj) := List.getElem?_eq_getElem hj
        obtain ⟨v, hv, Vv⟩ := W.get eg
        have gl : lget l i = l[i]'hj := lget_of eg
        refine wpAny_pyNext_list_item it3 hT.isList (by simpa using hv) fun h' it4 sb => ?_
        obtain ⟨oi, ei, ri⟩ := id it4
        have S4 : Step (fun b => LEx env b ∨ b = s1.heap.objs.size) μ3 μ3 s3.heap h' := Step.sameBut sb (.inr rfl) ⟨oi, ei⟩
        have kk : ∀ b o, b ≠ s1.heap.objs.size → s3.heap.get? b = some o → h'.get? b = some o := fun b o n z => (sb.2 b n).trans z
        have I4 := I3.but kk o3
        have L4 := L3.but kk noL
        have goA : wpAny (model g.prog g.w) A (assign t env v) (fun _ s' => ∃ loc', Set1 g fi env μ3 st3 loc' { s3 with heap := h' } s' ∧ mb loc' st3 (fun loc st => forL bd x mb n (Nat.succ i) loc st kn kr) kr kn (fun loc st => forL bd x mb n (Nat.succ i) loc st kn kr) = true) no' { s3 with heap := h' } :=
          ht A env μ3 v (lget l i) loc3 st3 { s3 with heap := h' } _ R En I4 L4 (by rw [gl]; exact Vv) h6
        have goB : wpAny (model g.prog g.w) A (letOwnedTupleGo t (.ref s1.heap.objs.size) v) (fun _ s' => s' = { s3 with heap := h' }) no' { s3 with heap := h' } := by
          rcases hl (.ref s1.heap.objs.size) v with q | ⟨es, k', p, rfl⟩
          · rw [q]; exact wpAny_pure rfl
          · cases v with
            | ref T => exact wpAny_letOwnedTupleGo_listiter it4 rfl
            | _ => exact wpAny_pure rfl
        refine wpAny_mono goB (fun _ s4 q4 => ?_) fun _ _ z => z.elim
        subst q4
        refine wpAny_mono goA (fun _ s4 z => ?_) fun _ _ z => z.elim
        obtain ⟨loc4, T, h7⟩ := z
        refine wpAny_mono (hb _ _ _ _ _ _ _ _ _ _ R En T.I T.L h7) (fun fl s5 h8 => ?_) fun _ _ z => z.elim
        obtain ⟨μ5, st5, S5, m5, I5, h8⟩ := h8
        have TS := T.S.trans S5
        have SS := (S3.trans S4).trans (TS.weaken fun _ => .inl)
        have sm := ((m3.trans Same.heap).trans T.m).trans m5
        have o5 : Off μ5 s1.heap.objs.size := o3.step TS ei
        have it5 : s5.heap.IsListIter s1.heap.objs.size a.1 (i + 1) := ⟨oi, TS.keep _ _ ei o3.1 noL, ri⟩
        have f5 : μ5.ρ[x]? = some b := S5.ext.ρ_get f3
        cases fl with
        | next => obtain ⟨loc5, L5, h9⟩ := h8; exact ⟨n, Nat.lt_succ_self _, μ5, loc5, st5, i + 1, SS, sm, I5, L5, o5, it5, ⟨b, f5, fa⟩, h9⟩
        | cont => obtain ⟨loc5, L5, h9⟩ := h8; exact ⟨n, Nat.lt_succ_self _, μ5, loc5, st5, i + 1, SS, sm, I5, L5, o5, it5, ⟨b, f5, fa⟩, h9⟩
        | brk => obtain ⟨loc5, L5, h9⟩ := h8; exact ⟨.next, rfl, by simp, by simp, μ5, st5, (Step.refl μ s.heap).drop SS fun _ => wk, sm, I5, loc5, L5, h9⟩
        | ret v => obtain ⟨mv, V5, h9⟩ := h8; exact ⟨.ret v, rfl, by simp, by simp, μ5, st5, (Step.refl μ s.heap).drop SS fun _ => wk, sm, I5, mv, V5, h9⟩
      · have hj : ¬ i < l.length := fun z => by rw [Nat.blt_eq.mpr z] at hj; cases hj
        refine wpAny_pyNext_list_end R.1 it3 hT.isList (by simp; omega) fun h' eb => ?_
        have kk : ∀ b o, b ≠ s1.heap.objs.size → s3.heap.get? b = some o → h'.get? b = some o := fun b o n z => eb b o n z
        refine wpAny_execs_nil ⟨.next, rfl, by simp, by simp, μ3, st3, ((Step.refl μ s.heap).drop S3 fun _ => wk).last kk itn, m3.trans Same.heap, I3.but kk o3, loc3, L3.but kk noL, h6⟩
  · exact ⟨μ1, loc, st, 0, (S.weaken fun _ => .inl).trans S2.any, m.trans Same.heap, I2, L2, of2, ⟨_, Heap.get?_push_size _ rfl, rfl, rfl⟩, ⟨a, f, rfl⟩, h⟩
theorem sl_forT {n : Nat} {xs : List (Str × Pos)} {is : List Nat} {k' : Nat} {px : Pos} (hk : okT fi (xs.map (·.1)) is = true) (he : SE g d fi e me) (hb : SL g d fi body mb) (hr : SL g d fi rest mr) (hf : ∀ env x, foldedSetIterable e env x = pure x := by k_dflt (intro _ _; rfl)) :
    SL g d fi (.For (.Tuple (xs.map fun p => .Name p.1 p.2) k' px) e body [] pos :: rest) (sForT n is me mb mr) := by
  intro A env μ loc st s kn kr kb kc R En I L h
  refine wpAny_execs_cons (wpAny_For (un he R En I L h fun v μ2 mv st2 s2 S m I2 L2 V h => ?_) (hf env))
  obtain ⟨x, rfl, h1⟩ := ifOwn_of h
  exact for_list (kb := kb) (kc := kc) (tg_tup hk) hb R En S.any m I2 L2 V (fun _ _ => .inr ⟨_, _, _, rfl⟩) h1 fun fl s' n1 n2 z => SL.next hr R En fl s' n1 n2 z
theorem sl_for {n : Nat} {x : Str} {i : Nat} {px : Pos} (hk : okN fi x i = true) (he : SE g d fi e me) (hb : SL g d fi body mb) (hr : SL g d fi rest mr) (hf : ∀ env x, foldedSetIterable e env x = pure x := by k_dflt (intro _ _; rfl)) :
    SL g d fi (.For (.Name x px) e body [] pos :: rest) (sFor n i me mb mr) := by
  intro A env μ loc st s kn kr kb kc R En I L h
  refine wpAny_execs_cons (wpAny_For (un he R En I L h fun v μ2 mv st2 s2 S m I2 L2 V h => ?_) (hf env))
  obtain ⟨x, rfl, h1⟩ := ifOwn_of h
  exact for_list (kb := kb) (kc := kc) (tg_name hk) hb R En S.any m I2 L2 V (fun _ _ => .inl rfl) h1 fun fl s' n1 n2 z => SL.next hr R En fl s' n1 n2 z
noncomputable def ForRAt (g : G) (fi : FI) (env : Env) (μ : Wd) (s0 : Shared) (it ix m : Nat) (mb : Mine.S) (kn : Mine.L → Mine.St → Bool) (kr : MV → Mine.St → Bool) (n : Nat) (s : Shared) : Prop :=
  ∃ μ1 loc st i, Step (fun b => LEx env b ∨ b = it) μ μ1 s0.heap s.heap ∧ Same s0 s ∧ Hp g μ1 st s.heap ∧ Lo g μ1 fi env loc s.heap ∧ Off μ1 it ∧ IsRangeIter s.heap it (i : Nat) ((m : Int) - (i : Nat)) 1 ∧ forR ix mb n i m loc st kn kr = true
theorem sl_forR {n : Nat} {x : Str} {ix : Nat} {px np cp : Pos} (C : Top0 g K) (B : BName K fi "range") (hk : okN fi x ix = true) (he : SE g d fi e me) (hb : SL g d fi body mb) (hr : SL g d fi rest mr) (h1' : One e := by k_dflt (intro _; rfl)) :
    SL g d fi (.For (.Name x px) (.Call (.Name "range" np) [e] [] cp) body [] pos :: rest) (sForR n ix me mb mr) := by
  intro A env μ loc st s kn kr kb kc R En I L h
  refine wpAny_execs_cons (wpAny_For ?_ (fun _ => rfl))
  refine Call_Name1 (built_of C En I B.1 boot_range (by decide) B.2 (PySem.callWith_type1 (un he R En I L h fun v μ2 mv st2 s2 S m I2 L2 V h => ?_))) (h1' env)
  obtain ⟨mm, rfl, h1⟩ := natV_of h
  rcases bool_of h1 with ⟨hm, h2⟩ | ⟨_, h2⟩
  case inr => cases h2
  have hm := Nat.le_of_ble_eq_true hm
  obtain ⟨t, rfl⟩ := V
  refine call_range_1 ?_
  refine wpAny_pyIter_range (IsRange.new ..) (small_one (by omega) (by omega) (by omega) (by omega)) ?_
  obtain ⟨Ia, Sa⟩ := I2.junk { cls := .type "range", data := .fields #[.int 0 s2.toks, .int mm t, .int 1 (s2.toks + 1)] }
  obtain ⟨I3, Sb⟩ := Ia.junk { cls := .type "range_iterator", data := .fields #[rawInt 0, rawInt (Builtin.Range.rangeSize 0 mm 1), rawInt 1] }
  have S3 : Step (LEx env) μ μ2 s.heap _ := (S.any.trans Sa.any).trans Sb.any
  have L3 := (L2.step Sa).step Sb
  generalize hit : (s2.heap.push { cls := .type "range", data := .fields #[.int 0 s2.toks, .int mm t, .int 1 (s2.toks + 1)] }).objs.size = it at *
  have itn2 : (s2.heap.push { cls := .type "range", data := .fields #[.int 0 s2.toks, .int mm t, .int 1 (s2.toks + 1)] }).get? it = none := by rw [← hit]; exact none_at _
  have of2 : Off μ2 it := Ia.offNew itn2
  have noL : ¬ LEx env it := (L2.step Sa).notLEx itn2
  have itn : s.heap.get? it = none := by
    cases q : s.heap.get? it with
    | none => rfl
    | some o =>
      obtain ⟨o', e'⟩ := (S.any.trans (Ex := LEx env) Sa.any).stay it o q
      rw [itn2] at e'; cases e'
  have wk : ∀ b : Nat, (LEx env b ∨ b = it) → LEx env b ∨ s.heap.get? b = none := fun b q => q.imp id fun z => by rw [z]; exact itn
  refine codeAny_mono (R := fun r s' => ∃ fl, r = .ok fl ∧ fl ≠ .brk ∧ fl ≠ .cont ∧ RetF g fi env (fun loc st => mr loc st kn kr kb kc) kr kb kc μ s fl s')
    (codeAny_forLoop_any (ForRAt g fi env μ s it ix mm mb (fun loc st => mr loc st kn kr kb kc) kr) (fun n s3 h3 => ?_) n ?_) fun r s' h' => by obtain ⟨fl, rfl, n1, n2, h'⟩ := h'; exact SL.next hr R En fl s' n1 n2 h'
  · obtain ⟨μ3, loc3, st3, i, S3, m3, I3, L3, o3, it3, h3⟩ := h3
    cases n with
    | zero => cases h3
    | succ n =>
      have h3 : (Bool.rec (mr loc3 st3 kn kr kb kc) (mb (lset loc3 ix (.int (.ofNat i))) st3 (fun loc st => forR ix mb n (Nat.succ i) mm loc st (fun loc st => mr loc st kn kr kb kc) kr) kr (fun loc st => mr loc st kn kr kb kc) (fun loc st => forR ix mb n (Nat.succ i) mm loc st (fun loc st => mr loc st kn kr kb kc) kr)) (Nat.blt i mm) : Bool) = true := h3
      rcases bool_of h3 with ⟨hj, h6⟩ | ⟨hj, h6⟩
      · have hj := Nat.le_of_ble_eq_true hj
        refine wpAny_pyNext_range_item it3 (by omega) fun h' it4 sb => ?_
        have S4 : Step (fun b => LEx env b ∨ b = it) μ3 μ3 s3.heap h' := Step.sameBut sb (.inr rfl) ⟨_, it4⟩
        have kk : ∀ b o, b ≠ it → s3.heap.get? b = some o → h'.get? b = some o := fun b o n z => (sb.2 b n).trans z
        have I4 := I3.but kk o3
        have L4 := L3.but kk noL
        refine wpAny_of_eq (show letOwnedTupleGo _ _ _ = pure () from rfl) ?_
        have hok : bind1 ix (.int (.ofNat i)) loc3 st3 (fun loc => mb loc st3 (fun loc st => forR ix mb n (Nat.succ i) mm loc st (fun loc st => mr loc st kn kr kb kc) kr) kr (fun loc st => mr loc st kn kr kb kc) (fun loc st => forR ix mb n (Nat.succ i) mm loc st (fun loc st => mr loc st kn kr kb kc) kr)) = true := h6
        refine wpAny_mono (tg_name (d := d) hk A env μ3 (.int i s3.toks) (.int (.ofNat i)) loc3 st3 { s3 with heap := h', toks := s3.toks + 1 } _ R En I4 L4 ⟨_, rfl⟩ hok) (fun _ s4 z => ?_) fun _ _ z => z.elim
        obtain ⟨loc4, T, h7⟩ := z
        refine wpAny_mono (hb _ _ _ _ _ _ _ _ _ _ R En T.I T.L h7) (fun fl s5 h8 => ?_) fun _ _ z => z.elim
        obtain ⟨μ5, st5, S5, m5, I5, h8⟩ := h8
        have TS := T.S.trans S5
        have SS := (S3.trans S4).trans (TS.weaken fun _ => .inl)
        have sm := ((m3.trans Same.mk').trans T.m).trans m5
        have o5 : Off μ5 it := o3.step TS it4
        have it5 : IsRangeIter s5.heap it ((i + 1 : Nat) : Int) ((mm : Int) - (i + 1 : Nat)) 1 := by
          have := TS.keep _ _ it4 o3.1 noL
          rw [show ((i + 1 : Nat) : Int) = (i : Int) + 1 by omega, show (mm : Int) - ((i : Int) + 1) = (mm : Int) - i - 1 by omega]
          exact this
        cases fl with
        | next => obtain ⟨loc5, L5, h9⟩ := h8; exact ⟨n, Nat.lt_succ_self _, μ5, loc5, st5, i + 1, SS, sm, I5, L5, o5, it5, h9⟩
        | cont => obtain ⟨loc5, L5, h9⟩ := h8; exact ⟨n, Nat.lt_succ_self _, μ5, loc5, st5, i + 1, SS, sm, I5, L5, o5, it5, h9⟩
        | brk => obtain ⟨loc5, L5, h9⟩ := h8; exact ⟨.next, rfl, by simp, by simp, μ5, st5, (Step.refl μ s.heap).drop SS wk, sm, I5, loc5, L5, h9⟩
        | ret v => obtain ⟨mv, V5, h9⟩ := h8; exact ⟨.ret v, rfl, by simp, by simp, μ5, st5, (Step.refl μ s.heap).drop SS wk, sm, I5, mv, V5, h9⟩
      · have hj : ¬ i < mm := fun z => by rw [Nat.blt_eq.mpr z] at hj; cases hj
        refine wpAny_pyNext_range_end R.1 it3 (by omega) fun h' eb => ?_
        have kk : ∀ b o, b ≠ it → s3.heap.get? b = some o → h'.get? b = some o := fun b o n z => eb b o n z
        exact wpAny_execs_nil ⟨.next, rfl, by simp, by simp, μ3, st3, ((Step.refl μ s.heap).drop S3 wk).last kk itn, m3.trans Same.heap, I3.but kk o3, loc3, L3.but kk noL, h6⟩
  · refine ⟨μ2, loc, st2, 0, S3.weaken fun _ => .inl, m.trans Same.mk', I3, L3, of2, ?_, h2⟩
    have e : Builtin.Range.rangeSize 0 (mm : Int) 1 = (mm : Int) - ((0 : Nat) : Int) := by rw [rangeSize_one]; split <;> omega
    show IsRangeIter _ _ _ _ _
    rw [← e, ← hit]
    exact Heap.get?_push_size _ rfl
end
end Mine

open PySem PySem.W PySem.Calls PyProof.Rows
set_option Elab.async false
set_option maxRecDepth 100000
namespace Mine
/-! ## calls -/
noncomputable def FC (g : G) (d f n : Nat) (m : Mine.S) : Prop :=
  ∀ (A : Around) (μ : Wd) (vs : List Value) (mvs : Mine.L) (st : Mine.St) (s : Shared) (k : Mine.K), Room d A → Hp g μ st s.heap → All2 (VR g μ) vs mvs → vs.length = n → bodyK m mvs st k = true →
    codeAny (model g.prog g.w) A (.call (.ref f) ⟨vs, []⟩) (fun r s' => ∃ v, r = .ok (.ret v) ∧ Ret g k μ s v s') s
/-- what is asked of a function's record -/
noncomputable def fdAt (K : Frag) (f : Nat) : Option FuncData := match K.lookup f with | some ⟨_, _, .func fd, _⟩ => some fd | _ => none
noncomputable def codeOk (K : Frag) (fd : FuncData) : Bool := match fd.code with
  | .ref c => (match K.lookup c with
    | some ⟨_, _, .fields vs, _⟩ => (match (vs[1]? : Option Value) with | some (Value.str q _) => q == fd.qualname | _ => false)
    | _ => false)
  | _ => false
noncomputable def bodyOf (fd : FuncData) : List Stmt := match fd.body with | .stmts b => b | _ => []
noncomputable def isStmts (fd : FuncData) : Bool := match fd.body with | .stmts _ => true | _ => false
noncomputable def fdOk (K : Frag) (ps : List Str) (fd : FuncData) : Bool :=
  codeOk K fd && isStmts fd && fd.globals == mainGlobals && fd.builtins == builtinsNs && fd.closure.isEmpty && fd.scope.names.all (fun x => x.2 != .cell) && ps.all (fun x => fd.scope.names.lookup x == some .local) && !fd.scope.isCoroutine && !fd.scope.isGenerator && fd.scope.kind == .function
section
variable {g : G} {K : Frag} {d : Nat} {fi : FI}
theorem fdAt_of {f : Nat} {fd : FuncData} (h : fdAt K f = some fd) : ∃ o, K.lookup f = some o ∧ o.data = .func fd := by
  unfold fdAt at h
  split at h
  · rename_i c dd fd' sl e; cases h; exact ⟨_, e, rfl⟩
  · cases h
theorem codeOk_of {h : Heap} {fd : FuncData} (X : K.In h) (e : codeOk K fd = true) : h.CodeRec fd.code fd.qualname := by
  unfold codeOk at e
  split at e
  · rename_i c hc
    split at e
    · rename_i cl dd vs sl ho
      split at e
      · rename_i q t hq
        exact ⟨c, _, vs, t, hc, X _ _ ho, rfl, by rw [hq, beq_iff_eq.mp e]⟩
      · cases e
    · cases e
  · cases e
theorem zip_lookup : ∀ {ps : List Str} {vs : List Value} {i : Nat} {x : Str}, ps.Nodup → ps.length = vs.length → ps[i]? = some x → ∃ v, vs[i]? = some v ∧ (ps.zip vs).reverse.lookup x = some v
  | [], _, _, _, _, _, h => by simp at h
  | p :: ps, [], _, _, _, h, _ => by simp at h
  | p :: ps, v :: vs, 0, x, nd, hl, h => by
    simp at h; subst h
    refine ⟨v, rfl, ?_⟩
    rw [List.zip_cons_cons, List.reverse_cons, List.lookup_append]
    have : (ps.zip vs).reverse.lookup p = none := by
      rw [List.lookup_eq_none_iff]
      intro q hq
      have := List.of_mem_zip (List.mem_reverse.mp hq)
      rw [List.nodup_cons] at nd
      simp
      intro z; exact nd.1 (by rw [z]; exact this.1)
    rw [this]; simp
  | p :: ps, v :: vs, i + 1, x, nd, hl, h => by
    rw [List.nodup_cons] at nd
    have h' : ps[i]? = some x := by simpa using h
    obtain ⟨w, e, q⟩ := zip_lookup nd.2 (by simpa using hl) h'
    refine ⟨w, by simpa using e, ?_⟩
    rw [List.zip_cons_cons, List.reverse_cons, List.lookup_append, q]; rfl
theorem lget_len {l : Mine.L} {i : Nat} (h : lget l i ≠ .unb) : i < l.length := (List.getElem?_eq_some_iff.mp (lget_some h)).1
theorem Room.call {A : Around} (R : Room (d + 1) A) (env : Env) : Room d (A.deeper env) := by
  obtain ⟨h1, h2, h3⟩ := R
  exact ⟨h1, by show A.depth + 1 + 4 * d ≤ 900; omega, by show A.units + 3 + 20 * d ≤ 5000; omega⟩
theorem fc_of {f n : Nat} {fd : FuncData} {ps more : List Str} {m : Mine.S} (C : Top0 g K) (ho : fdAt K f = some fd) (hok : fdOk K ps fd = true) (hn : ps.length = n) (hnm : fi.nm = ps ++ more) (nd : fi.nm.Nodup) (hsc : fd.scope = fi.sc)
    (hbind : ∀ vs : List Value, vs.length = n → bindArgs fd ⟨vs, []⟩ = pure (ps.zip vs)) (hb : SL g d fi (bodyOf fd) m) : FC g (d + 1) f n m := by
  intro A μ vs mvs st s k R I W hl h
  obtain ⟨o, ho, hd⟩ := fdAt_of ho
  have X := C.in_ I
  unfold fdOk at hok
  simp only [Bool.and_eq_true, Bool.not_eq_true', beq_iff_eq, List.all_eq_true] at hok
  obtain ⟨⟨⟨⟨⟨⟨⟨⟨⟨k1, k2⟩, k3⟩, k4⟩, k5⟩, k6⟩, k7⟩, k8⟩, k9⟩, k10⟩ := hok
  obtain ⟨p, loose, mg, mb, T⟩ := C.T
  have nl : s.heap.NoLimit := by obtain ⟨mc, h1, h2⟩ := T.nolimit; exact ⟨mc, h1.keeps I.h0, h2⟩
  have hbody : fd.body = .stmts (bodyOf fd) := by
    unfold isStmts at k2; unfold bodyOf
    cases q : fd.body with
    | stmts b => rfl
    | _ => rw [q] at k2; cases k2
  refine codeAny_call_def (by have := R.2.1; show A.depth < 1000; omega) (X _ _ ho) hd nl (codeOk_of X k1) hbody (BindsTo.of_eq (hbind vs hl)) (fun x hx => ?_) (fun x hx => k7 _ (List.of_mem_zip hx).1) (fun h₀ hns hk => ?_) k8 k9 k10
  · have := k6 x hx; simpa using this
  · have locN : s.heap.get? s.heap.objs.size = none := none_at _
    have off : Off μ s.heap.objs.size := I.offNew locN
    have I0 : Hp g μ st h₀ := I.other fun b o e _ => hk b o e
    have En : EnvOk fi (callEnv fd s.heap.objs.size f) := ⟨hsc, by rw [← hsc]; exact k10, k3, k4, nd, fun x hx => by
      exfalso
      have hx : fd.scope.names.lookup x = some .cell := hx
      have hm := mem_of_lookup hx
      have := k6 _ hm
      simp at this⟩
    have nd' : ps.Nodup := by rw [hnm] at nd; exact (List.nodup_append.mp nd).1
    have L0 : Lo g μ fi (callEnv fd s.heap.objs.size f) mvs h₀ := by
      refine ⟨off.1, off.2, fun x c hc => ?_, ?_, _, hns, fun i x hx ne => ?_⟩
      · have : fd.closure = [] := by simpa using k5
        rw [show (callEnv fd s.heap.objs.size f).cells = fd.closure from rfl, this] at hc; cases hc
      · have : fd.closure = [] := by simpa using k5
        rw [show (callEnv fd s.heap.objs.size f).cells = fd.closure from rfl, this]; exact .nil
      · have hi : i < mvs.length := lget_len ne
        have hi' : i < ps.length := by rw [← W.length, hl, ← hn] at hi; exact hi
        have hx' : ps[i]? = some x := by rw [hnm, List.getElem?_append_left hi'] at hx; exact hx
        obtain ⟨v, hv, hlk⟩ := zip_lookup nd' (by rw [hn, hl]) hx'
        obtain ⟨b, hb', V⟩ := W.get' hv
        rw [lget_of hb']
        refine ⟨v, V, .inl ⟨?_, hlk⟩⟩
        exact k7 x (List.mem_of_getElem? hx')
    have S0 : Step none' μ μ s.heap h₀ := ⟨⟨[], by simp⟩, ⟨[], by simp⟩, fun _ _ z => z, fun _ _ z => .inl z, fun b o z _ _ => hk b o z, fun b o z => ⟨o, hk b o z⟩⟩
    refine wpAny_mono (hb _ _ _ _ _ { s with heap := h₀, toks := s.toks + (ps.zip vs).length } _ _ _ _ (R.call _) En I0 L0 h) (fun fl s' z => ?_) fun _ _ z => z.elim
    obtain ⟨μ', st', S1, m1, I1, z⟩ := z
    have S := S0.drop S1 fun b q => .inr (by
      rcases q with q | ⟨x, q⟩
      · rw [q]; exact locN
      · have : fd.closure = [] := by simpa using k5
        rw [show (callEnv fd s.heap.objs.size f).cells = fd.closure from rfl, this] at q; cases q)
    cases fl with
    | next => obtain ⟨loc, _, z⟩ := z; exact ⟨_, rfl, μ', .none, st', S, Same.mk'.trans m1, I1, rfl, z⟩
    | ret v => obtain ⟨mv, V, z⟩ := z; exact ⟨_, rfl, μ', mv, st', S, Same.mk'.trans m1, I1, V, z⟩
    | brk => obtain ⟨loc, _, z⟩ := z; cases z
    | cont => obtain ⟨loc, _, z⟩ := z; cases z
theorem FC.run {A : Around} {f n : Nat} {m : Mine.S} {μ μ1 : Wd} {vs : List Value} {mvs : Mine.L} {st : Mine.St} {s s1 : Shared} {k : Mine.K} {d' : Nat} (hF : FC g d' f n m) (hd : d' ≤ d) (R : Room d A) (S : Step none' μ μ1 s.heap s1.heap) (q : Same s s1) (I : Hp g μ1 st s1.heap) (W : All2 (VR g μ1) vs mvs) (hl : vs.length = n) (h : bodyK m mvs st k = true) :
    wpAny (model g.prog g.w) A (call (.ref f) vs) (Ret g k μ s) no' s1 :=
  wpAny_call (codeAny_mono (hF A μ1 vs mvs st s1 k (R.le hd) I W hl h) fun r s' z => by obtain ⟨v, rfl, z⟩ := z; exact z.after S q)
/-- the arguments are plain -/
abbrev Plain (es : List Expr) : Prop := ∀ env (pos : Pos), match es with | [] => True | e :: rest => starEach (e :: rest) env = (false, eval e env) :: starEach rest env ∧ (backTo pos (starEach rest env)).any (·.1) = false
theorem call_args {A : Around} {env : Env} {μ : Wd} {loc : Mine.L} {st : Mine.St} {s : Shared} {e : Expr} {rest : List Expr} {ms : Mine.Xs} {f : Value} {first : List Value} {pos : Pos} {kk : Mine.L → Mine.St → Bool} {Q : Value → Shared → Prop} (C : Top0 g K) (hk : keepIn K f = true) (hp : Plain (e :: rest)) (hs : SEs g d fi (e :: rest) ms) (R : Room d A) (En : EnvOk fi env) (I : Hp g μ st s.heap) (L : Lo g μ fi env loc s.heap) (hm : ms loc st kk = true)
    (h : ∀ vs μ2 mvs st2 s2, Step none' μ μ2 s.heap s2.heap → Same s s2 → Hp g μ2 st2 s2.heap → All2 (VR g μ2) vs mvs → vs.length = (e :: rest).length → kk mvs st2 = true → wpAny (model g.prog g.w) A (call f (first ++ vs)) Q no' s2) :
    wpAny (model g.prog g.w) A (callWith pos f first (backTo pos (starEach (e :: rest) env)) []) Q no' s := by
  obtain ⟨h1, h2⟩ := hp env pos
  refine callWith_K C.X hk (wpAny_mono (hs A env pos μ loc st s kk R En I L hm) (fun vs s2 z => ?_) fun _ _ z => z) h1 h2
  obtain ⟨μ2, mvs, st2, S2, m2, I2, W2, n2, z⟩ := z
  exact ⟨C.in_ I2, h _ _ _ _ _ S2 m2 I2 W2 n2 z⟩
theorem bodyK_beta {m : Mine.S} {vs : Mine.L} {st : Mine.St} {k : Mine.K} : bodyK m vs st k = m vs st (fun _ st => k .none st) k dead dead := rfl
theorem se_call {x : Str} {np pos : Pos} {f n d' : Nat} {m : Mine.S} {e : Expr} {rest : List Expr} {ms : Mine.Xs} (C : Top0 g K) (eN : nsIn K mainGlobals x = some (some (.ref f))) (hx : fi.sc.names.lookup x = some .globalImplicit) (hdb : (x == ("__debug__" : Str)) = false) (hk : keepIn K (.ref f) = true) (hF : FC g d' f n m) (hd : d' ≤ d)
    (hs : SEs g d fi (e :: rest) ms) (hn : (e :: rest).length = n) (hp : Plain (e :: rest) := by k_dflt (intro _ _; exact ⟨rfl, rfl⟩)) : SE g d fi (.Call (.Name x np) (e :: rest) [] pos) (xCall m ms) := by
  intro A env μ loc st s k R En I L h
  refine Call_Name rfl (glob_of C En I eN hx (call_args C hk hp hs R En I L h fun vs μ2 mvs st2 s2 S2 m2 I2 W2 n2 z => ?_) hdb)
  exact hF.run hd R S2 m2 I2 W2 (n2.trans hn) z
noncomputable def mOk (K : Frag) (c : Nat) (name : Str) (f : Nat) : Bool := plainGet K c name && (findIn K (.ref c) name == some (some (.ref f))) && isFn K (.ref f) && keepIn K (.ref f) && !attrS.contains name
theorem getL_absent {μ : Wd} {name : Str} (hn : attrS.contains name = false) {es : List DictEntry} {fs : List (Nat × MV)} (W : All2 (ER g μ) es fs) : getL name es = some none := by
  have h1 := getL_isSome (name := name) W
  unfold getL at h1 ⊢
  split
  · rename_i en he
    exfalso
    have hm := List.mem_of_find?_eq_some he
    have hs := List.find?_some (p := fun x : DictEntry => x.key.isStr name) he
    have key : ∀ {es : List DictEntry} {fs : List (Nat × MV)}, All2 (ER g μ) es fs → ∀ e ∈ es, e.key.isStr name = false := by
      intro es fs W
      induction W with
      | nil => intro e h; cases h
      | cons r _ ih =>
        intro e h
        rcases List.mem_cons.mp h with rfl | h
        · obtain ⟨x, t, e1, e2, _⟩ := r
          rw [e2, isStr_str, beq_eq_false_iff_ne]
          rintro rfl
          have := List.mem_of_getElem? e1
          rw [← List.contains_iff_mem] at this
          rw [this] at hn; cases hn
        · exact ih e h
    rw [key W en hm] at hs; cases hs
  · rename_i he
    rw [he] at h1
    dsimp only at h1
    split at h1
    · cases h1
    · rename_i z; rw [if_neg z]
theorem meth_of {A : Around} {μ : Wd} {st : Mine.St} {s : Shared} {i c f : Nat} {x : Value} {fs : List (Nat × MV)} {name : Str} {pl : Sem Bool} {Q : Value × List Value → Shared → Prop} {E : Value → Shared → Prop} (C : Top0 g K) (hk : mOk K c name f = true) (I : Hp g μ st s.heap) (X : VR g μ x (.own i)) (e : st.h.get i = some (.inst c fs)) (h : Q (.ref f, [x]) s) :
    wpAny (model g.prog g.w) A (getMethod x name pl) Q E s := by
  unfold mOk at hk
  simp only [Bool.and_eq_true, beq_iff_eq, Bool.not_eq_true'] at hk
  obtain ⟨⟨⟨⟨k1, k2⟩, k3⟩, k4⟩, k5⟩ := hk
  obtain ⟨a, es, n, fa, rfl, ne, e1, e2, W, le, hc⟩ := I.ins X e
  refine method_fn (C.in_ I) (inst_at e1 e2) (plainGet_of k1).1 (plainGet_of k1).2 k2 (beq_iff_eq.mp k3) ?_ h
  show (lookIn name (dictOf es n)).map _ = _
  rw [lookIn_dict, getL_absent k5 W]; rfl
theorem mOk_keep {c f : Nat} {name : Str} (hk : mOk K c name f = true) : keepIn K (.ref f) = true := by
  unfold mOk at hk
  simp only [Bool.and_eq_true] at hk
  exact hk.1.2
theorem insT_of {c : Nat} {mo : Mine.X} {ms : Mine.Xs} {m : Mine.S} {st : Mine.St} {loc : Mine.L} {k : Mine.K} {x : MV} (h : (ifOwn x fun i => withObj st i fun ob => insOr ob fun c' _ => Bool.rec false (ms loc st fun vs st => bodyK m (.own i :: vs) st k) (Nat.beq c c')) = true) :
    ∃ i fs, x = .own i ∧ st.h.get i = some (.inst c fs) ∧ (ms loc st fun vs st => bodyK m (.own i :: vs) st k) = true := by
  obtain ⟨i, rfl, h1⟩ := ifOwn_of h
  obtain ⟨ob, e, h2⟩ := withObj_of h1
  obtain ⟨c', fs, rfl, h3⟩ := insOr_of h2
  rcases bool_of h3 with ⟨q, h4⟩ | ⟨_, h4⟩
  · obtain rfl := Nat.eq_of_beq_eq_true q
    exact ⟨i, fs, rfl, e, h4⟩
  · cases h4
theorem se_mth {o : Expr} {name : Str} {apos pos : Pos} {c f n d' : Nat} {m : Mine.S} {e : Expr} {rest : List Expr} {mo : Mine.X} {ms : Mine.Xs} (C : Top0 g K) (hk : mOk K c name f = true) (hF : FC g d' f n m) (hd : d' ≤ d) (ho : SE g d fi o mo)
    (hs : SEs g d fi (e :: rest) ms) (hn : (e :: rest).length + 1 = n) (hm' : IsMeth o name apos pos (e :: rest)) (hp : Plain (e :: rest) := by k_dflt (intro _ _; exact ⟨rfl, rfl⟩)) : SE g d fi (.Call (.Attribute o name apos) (e :: rest) [] pos) (xMth c m mo ms) := by
  intro A env μ loc st s k R En I L h
  obtain ⟨pl, he⟩ := hm' env
  refine MethodCall_ (un ho R En I L h fun v1 μ2 x st2 s2 S m2 I2 L2 V1 h => ?_) he
  obtain ⟨i, fs, rfl, e', h4⟩ := insT_of (mo := mo) h
  refine meth_of C hk I2 V1 e' (call_args C (mOk_keep hk) hp hs R En I2 L2 h4 fun vs μ3 mvs st3 s3 S3 m3 I3 W3 n3 z => ?_)
  exact hF.run hd R (S.trans S3) (m2.trans m3) I3 (.cons (V1.step S3) W3) (by simp [n3]; simpa using hn) z
theorem se_mth0 {o : Expr} {name : Str} {apos pos : Pos} {c f d' : Nat} {m : Mine.S} {mo : Mine.X} (C : Top0 g K) (hk : mOk K c name f = true) (hF : FC g d' f 1 m) (hd : d' ≤ d) (ho : SE g d fi o mo) (hm' : IsMeth o name apos pos []) :
    SE g d fi (.Call (.Attribute o name apos) [] [] pos) (xMth c m mo yNil) := by
  intro A env μ loc st s k R En I L h
  obtain ⟨pl, he⟩ := hm' env
  refine MethodCall_ (un ho R En I L h fun v1 μ2 x st2 s2 S m2 I2 L2 V1 h => ?_) he
  obtain ⟨i, fs, rfl, e', h4⟩ := insT_of (mo := mo) h
  refine meth_of C hk I2 V1 e' (callWith_K0 (C.in_ I2) (mOk_keep hk) ?_)
  exact hF.run hd R S m2 I2 (.cons V1 .nil) rfl h4
noncomputable def nOk (K : Frag) (c f : Nat) : Bool := makesIn K c && (findIn K (.ref c) "__init__" == some (some (.ref f))) && (typeIn K (.ref f) == some (.type "function")) && keepIn K (.ref c) && clsL.contains c
theorem new_of {A : Around} {μ : Wd} {st : Mine.St} {s : Shared} {c f n d' : Nat} {vs : List Value} {mvs : Mine.L} {m : Mine.S} {k : Mine.K} (C : Top0 g K) (hk : nOk K c f = true) (hF : FC g d' f n m) (hd : d' < d) (R : Room d A) (I : Hp g μ st s.heap) (W : All2 (VR g μ) vs mvs) (hn : vs.length + 1 = n)
    (h : (alloc (.inst c []) st fun o st => bodyK m (o :: mvs) st fun r st => isNone r fun b => Bool.rec false (k o st) b) = true) : wpAny (model g.prog g.w) A (call (.ref c) vs) (Ret g k μ s) no' s := by
  unfold nOk at hk
  simp only [Bool.and_eq_true, beq_iff_eq] at hk
  obtain ⟨⟨⟨⟨k1, k2⟩, k3⟩, k4⟩, k5⟩ := hk
  have hc : c ∈ clsL := by simpa using k5
  have X := C.in_ I
  have h := alloc_of h
  obtain ⟨hh, gg, dd, t, os⟩ := s
  have pa : ((hh.push emptyDict).push (instObj c hh.objs.size)).get? (hh.objs.size + 1) = some (instObj c hh.objs.size) := by
    have := Heap.get?_push_size (hh.push emptyDict) (o := instObj c hh.objs.size) rfl
    rwa [Heap.size_push] at this
  obtain ⟨I1, S1, V1⟩ := I.new (a := (hh.objs.size + 1, hh.objs.size)) (mo := .inst c []) (h' := (hh.push emptyDict).push (instObj c hh.objs.size)) (fun b o e => Heap.get?_push_of_some _ (Heap.get?_push_of_some _ e)) ⟨Heap.get?_none_of_le (Nat.le_succ _), none_at hh⟩
    ⟨⟨_, pa⟩, _, Heap.get?_push_of_some _ (Heap.get?_push_size _ rfl)⟩
    ⟨Nat.succ_ne_self _, [], 0, pa, Heap.get?_push_of_some _ (Heap.get?_push_size _ rfl), .nil, Nat.zero_le _, hc⟩
  have R' : Room d' (A.under (.builtin "type.__call__" ⟨.ref c :: vs, []⟩)) := by
    obtain ⟨r1, r2, r3⟩ := R
    refine ⟨r1, ?_, ?_⟩
    · show A.depth + 1 + 4 * d' ≤ 900; omega
    · show A.units + 1 + 20 * d' ≤ 5000; omega
  refine wpAny_call (make_core (makes_of X k1) (looks_findIn X k2) (fun self => bind_fn X self k3) (.inl rfl) (codeAny_mono (hF _ _ _ _ _ _ _ R' I1 (.cons (V1 _ rfl) (W.mono fun _ _ z => z.step S1)) (by simpa using hn) h) fun r s' z => ?_))
  obtain ⟨v, rfl, μ2, mv, st2, S2, m2, I2, V2, z⟩ := z
  have z' := isNone_of V2 z
  cases q : (v == Value.none) with
  | false => rw [q] at z'; cases z'
  | true =>
    rw [q] at z'
    have : v = Value.none := by simpa using q
    exact ⟨this, μ2, .own st.n, st2, S1.trans S2, Same.heap.trans m2, I2, (V1 _ rfl).step S2, z'⟩
theorem se_new {x : Str} {np pos : Pos} {c f n d' : Nat} {m : Mine.S} {e : Expr} {rest : List Expr} {ms : Mine.Xs} (C : Top0 g K) (eN : nsIn K mainGlobals x = some (some (.ref c))) (hx : fi.sc.names.lookup x = some .globalImplicit) (hdb : (x == ("__debug__" : Str)) = false) (hk : nOk K c f = true) (hF : FC g d' f n m) (hd : d' < d)
    (hs : SEs g d fi (e :: rest) ms) (hn : (e :: rest).length + 1 = n) (hp : Plain (e :: rest) := by k_dflt (intro _ _; exact ⟨rfl, rfl⟩)) : SE g d fi (.Call (.Name x np) (e :: rest) [] pos) (xNew c m ms) := by
  intro A env μ loc st s k R En I L h
  have kc : keepIn K (.ref c) = true := by unfold nOk at hk; simp only [Bool.and_eq_true] at hk; exact hk.1.2
  refine Call_Name rfl (glob_of C En I eN hx (call_args C kc hp hs R En I L h fun vs μ2 mvs st2 s2 S2 m2 I2 W2 n2 z => ?_) hdb)
  exact wpAny_mono (new_of C hk hF hd R I2 (vs := [] ++ vs) W2 (by simp [n2]; simpa using hn) z) (fun _ _ z => z.after S2 m2) fun _ _ z => z
theorem se_new0 {x : Str} {np pos : Pos} {c f d' : Nat} {m : Mine.S} (C : Top0 g K) (eN : nsIn K mainGlobals x = some (some (.ref c))) (hx : fi.sc.names.lookup x = some .globalImplicit) (hdb : (x == ("__debug__" : Str)) = false) (hk : nOk K c f = true) (hF : FC g d' f 1 m) (hd : d' < d) :
    SE g d fi (.Call (.Name x np) [] [] pos) (xNew c m yNil) := by
  intro A env μ loc st s k R En I L h
  have kc : keepIn K (.ref c) = true := by unfold nOk at hk; simp only [Bool.and_eq_true] at hk; exact hk.1.2
  refine Call_Name rfl (glob_of C En I eN hx (callWith_K0 (C.in_ I) kc ?_) hdb)
  exact new_of C hk hF hd R I .nil rfl h
theorem se_dct {pos : Pos} : SE g d fi (.Dict [] [] pos) xDct := by
  intro A env μ loc st s k R En I L h
  have h := alloc_of h
  refine wpAny_Dict_empty ?_
  obtain ⟨I1, S1, V1⟩ := I.new (a := (s.heap.objs.size, s.heap.objs.size)) (mo := .dct []) (h' := s.heap.push { cls := .type "dict", data := .dict #[] }) (fun b o e => Heap.get?_push_of_some _ e) ⟨none_at _, none_at _⟩ ⟨⟨_, Heap.get?_push_size _ rfl⟩, _, Heap.get?_push_size _ rfl⟩
    ⟨[], ⟨_, #[], 0, Heap.get?_push_size _ rfl, by first | exact ⟨rfl, rfl⟩ | constructor <;> rfl | simp [Obj.ExactDict], rfl, by first | (intro i h; simp at h) | simp [KeysOf], by first | exact .nil | simp [Pairs], by simp⟩, .nil, Nat.zero_le _⟩
  exact Ret.heap (Step.refl _ _) (Same.refl _) ⟨I1, S1⟩ (V1 _ rfl) h
end
end Mine

open PySem PySem.W PySem.Calls PyProof.Rows
set_option Elab.async false
set_option maxRecDepth 100000
namespace Mine
/-! ## list comprehensions -/
noncomputable def TS (g : G) (d : Nat) (fi : FI) (ifs : List Expr) (m : Mine.Ts) : Prop :=
  ∀ (A : Around) (env : Env) (μ : Wd) (loc : Mine.L) (st : Mine.St) (s : Shared) (k : Bool → Mine.St → Bool), Room d A → EnvOk fi env → Hp g μ st s.heap → Lo g μ fi env loc s.heap → m loc st k = true →
    wpAny (model g.prog g.w) A (forIn ifs true fun c r => if r = true then do let ok ← PySem.isTrue c env (eval c env); pure (ForInStep.yield ok) else pure (ForInStep.yield r)) (RetB g k μ s) no' s
noncomputable def turnB (t : Mine.Ts) (e : Mine.X) (a : Nat) (cl : Mine.L) (mv : MV) (st : Mine.St) (next : Mine.St → Bool) : Bool := t (mv :: cl) st fun c st => Bool.rec (next st) (e (mv :: cl) st fun v st => addTo st a v next) c
structure Source (g : G) (A : Around) (it : Nat) (lp : Nat → Nat → Mine.St → (Mine.St → Bool) → Bool) (tb : MV → Mine.St → (Mine.St → Bool) → Bool) (J : Nat → Wd → Heap → Prop) : Prop where
  zero : ∀ i st k, lp 0 i st k = true → False
  next : ∀ n i μ st (s : Shared) k (Q : Option Value → Shared → Prop) (E : Value → Shared → Prop), Hp g μ st s.heap → Off μ it → J i μ s.heap → lp (n + 1) i st k = true →
    (∀ h', (∀ b o, b ≠ it → s.heap.get? b = some o → h'.get? b = some o) → k st = true → Q none { s with heap := h' }) →
    (∀ v mv h' tk o, Heap.SameBut it s.heap h' → h'.get? it = some o → J (i + 1) μ h' → VR g μ v mv → tb mv st (fun st => lp n (i + 1) st k) = true → Q (some v) { s with heap := h', toks := tk }) →
    wpAny (model g.prog g.w) A (pyNext (.ref it)) Q E s
  keep : ∀ i μ μ' h h' (Ex : Nat → Prop), Off μ it → ¬ Ex it → Step Ex μ μ' h h' → J i μ h → J i μ' h'
  self : ∀ i μ (s : Shared) (Q E : Value → Shared → Prop), J i μ s.heap → Q (.ref it) s → wpAny (model g.prog g.w) A (pyIter (.ref it)) Q E s
section
variable {g : G} {d : Nat} {fi : FI}
theorem ts_nil : TS g d fi [] tYes := fun _ _ _ _ st s _ _ _ I _ h => wpAny_tests_nil (RetB.here (Step.refl _ _) (Same.refl _) I h)
theorem ts_one {c : Expr} {m : Mine.Ts} (h : SB g d fi c m) : TS g d fi [c] m := fun A env μ loc st s k R En I L hm => wpAny_tests_one (h A env μ loc st s k R En I L hm)
theorem storeL {A : Around} {env : Env} {μ : Wd} {loc : Mine.L} {st : Mine.St} {s : Shared} {i : Nat} {x : Str} {v : Value} {mv : MV} (En : EnvOk fi env) (I : Hp g μ st s.heap) (L : Lo g μ fi env loc s.heap) (hx : fi.nm[i]? = some x) (V : VR g μ v mv) (hk : fi.sc.names.lookup x = some .local) {E : Value → Shared → Prop} :
    wpAny (model g.prog g.w) A (storeName env x v) (fun _ s' => Step (fun b => b = env.locals) μ μ s.heap s'.heap ∧ Same s s' ∧ Hp g μ st s'.heap ∧ Lo g μ fi env (lset loc i mv) s'.heap) E s := by
  have hk : env.kindOf x = some .local := by show env.scope.names.lookup x = _; rw [En.sc]; exact hk
  have kd : env.scope.kind = .function := by rw [En.sc]; exact En.kind
  obtain ⟨m, hn, hv⟩ := id L.vars
  refine wpAny_storeName_local hk hn (fun h' hn' hs => ?_) (by rw [kd]; rfl)
  obtain ⟨o, es, ep, e, r⟩ := id hn'
  refine ⟨Step.sameBut hs rfl ⟨o, e⟩, Same.mk', I.other fun b o z q => ?_, L.put En.nd hx V hv hk hn' hs⟩
  refine (hs.2 b fun q' => ?_).trans z
  subst q'; exact q.elim L.off (fun z => z L.base)
noncomputable def CompAt (g : G) (fiC : FI) (cenv : Env) (μ1 : Wd) (s1 : Shared) (it C a : Nat) (accA : Nat × Nat) (caps : Mine.L) (lp : Nat → Nat → Mine.St → (Mine.St → Bool) → Bool) (J : Nat → Wd → Heap → Prop) (k : Mine.St → Bool) (n : Nat) (s : Shared) : Prop :=
  ∃ μ2 z st i, Step (fun b => b = it ∨ b = C) μ1 μ2 s1.heap s.heap ∧ Same s1 s ∧ Hp g μ2 st s.heap ∧ Lo g μ2 fiC cenv (z :: caps) s.heap ∧ Off μ2 it ∧ (∃ o, s.heap.get? it = some o) ∧ J i μ2 s.heap ∧ μ2.ρ[a]? = some accA ∧ lp n i st k = true
theorem comp_core {A : Around} {env : Env} {μ μ1 : Wd} {loc : Mine.L} {st : Mine.St} {s s1 : Shared} {elt iter : Expr} {x : Str} {px lpos : Pos} {ifs : List Expr} {scope : Scope} {fiC : FI} {cl : List (Str × Addr)} {caps : Mine.L} {t : Mine.Ts} {e : Mine.X} {it n : Nat} {lp : Nat → Nat → Nat → Mine.St → (Mine.St → Bool) → Bool} {J : Nat → Wd → Heap → Prop} {k : Mine.K}
    {RR : Value → Addr → Result → Shared → Prop}
    (src : ∀ a, Source g A it (lp a) (turnB t e a caps) J) (hT : TS g d fiC ifs t) (hE : SE g d fiC elt e) (R : Room d A) (Enc : ∀ C, EnvOk fiC (compEnvC scope cl C env)) (hcell : ∀ y ∈ scope.names, y.2 ≠ .cell) (hkind : scope.kind = .function)
    (hnx : fiC.nm[0]? = some x) (hkx : fiC.sc.names.lookup x = some .local) (S : Step none' μ μ1 s.heap s1.heap) (m : Same s s1) (I : Hp g μ1 st s1.heap) (L : Lo g μ1 fi env loc s1.heap)
    (hcl : ∀ x c, (x, c) ∈ cl → ∃ y, (y, c) ∈ env.cells)
    (hlo : ∀ C h μ', Lo g μ' fi env loc h → Off μ' C → ¬ LEx env C → h.Ns C (fun _ => none) → Lo g μ' fiC (compEnvC scope cl C env) (.unb :: caps) h)
    (oit : Off μ1 it) (itn : s.heap.get? it = none) (eit : ∃ o, s1.heap.get? it = some o) (nit : ¬ LEx env it) (j0 : J 0 μ1 s1.heap) (h : (alloc (.lst []) st fun a st => ifOwn a fun a => lp a n 0 st fun st => k (.own a) st) = true)
    (hRR : ∀ acc C s' m' μ2 st2 a, Step (fun b => b = it ∨ b = C) μ μ2 s.heap s'.heap → Same s s' → Hp g μ2 st2 s'.heap → Off μ2 C → s.heap.get? C = none → s'.heap.Ns C m' → VR g μ2 acc (.own a) → k (.own a) st2 = true → RR acc C (.ok .next) s') :
    wpAny (model g.prog g.w) A (newList []) (fun acc s₃ => wpAny (model g.prog g.w) A (newFunctionEnv scope env.globals cl [] env.qual none .none (some env)) (fun cenv s₄ =>
      codeAny (model g.prog g.w) A (.compStart (.ListComp elt [⟨.Name x px, iter, ifs, 0⟩] scope lpos) 0 (.ref it) acc { cenv with scope := relabel scope env }) (RR acc cenv.locals) s₄) no' s₃) no' s1 := by
  have h := alloc_of h
  refine wpAny_newObj_type (wpAny_newFunctionEnv hcell (by intro y hy; simp at hy) (fun h₁ hns hsb => ?_) hkind) (by size_fits)
  obtain ⟨μ2, I2, S2, V2⟩ := I.newLst (vs := []) (mvs := []) .nil (Nat.zero_le _)
  have nf : ∀ b, s1.heap.get? b = none → s.heap.get? b = none := fun b q => S.fresh q
  revert I2 S2 hns hsb
  generalize hH : s1.heap.push { cls := .type "list", data := .seq ([] : List Value).toArray } = H
  intro hns hsb I2 S2
  have hC : H.get? H.objs.size = none := none_at _
  obtain ⟨a0, f0, ea⟩ := V2
  injection ea with ea
  have kk : ∀ b o, H.get? b = some o → h₁.get? b = some o := fun b o e => hsb.extBut b o (fun q => by subst q; rw [hC] at e; cases e) (Heap.get?_push_of_some _ e)
  have oC : Off μ2 H.objs.size := I2.offNew hC
  have I3 : Hp g μ2 _ h₁ := I2.other fun b o e _ => kk b o e
  have S3 : Step none' μ1 μ2 s1.heap h₁ := S2.trans ⟨⟨[], by simp⟩, ⟨[], by simp⟩, fun _ _ z => z, fun _ _ z => .inl z, fun b o z _ _ => kk b o z, fun b o z => ⟨o, kk b o z⟩⟩
  have L3 : Lo g μ2 fi env loc h₁ := L.step S3
  have nC : ¬ LEx env H.objs.size := (L.step S2).notLEx hC
  have lo0 := hlo H.objs.size h₁ μ2 L3 oC nC hns
  have C1 : s1.heap.get? H.objs.size = none := by
    cases q : s1.heap.get? H.objs.size with
    | none => rfl
    | some o => rw [← hH, Heap.get?_push_of_some _ (hH ▸ q)] at hC; cases hC
  obtain ⟨oi, eit⟩ := eit
  have itC : it ≠ H.objs.size := fun q => by rw [q, C1] at eit; cases eit
  have eit3 : h₁.get? it = some oi := kk _ _ (by rw [← hH]; exact Heap.get?_push_of_some _ eit)
  have oit2 : Off μ2 it := oit.step S3 eit
  have j1 : J 0 μ2 h₁ := (src st.n).keep _ _ _ _ _ none' oit (fun z => z) S3 j0
  have n1 : ¬ LEx (compEnvC scope cl H.objs.size env) it := by
    rintro (q | ⟨x, q⟩)
    · exact itC q
    · obtain ⟨y, hy⟩ := hcl x it q; exact nit (.inr ⟨y, hy⟩)
  let cenv := compEnvC scope cl H.objs.size env
  have loop : codeAny (model g.prog g.w) A (.compLoop (.ListComp elt [⟨.Name x px, iter, ifs, 0⟩] scope lpos) 0 (.ref it) (.ref s1.heap.objs.size) cenv) (RR (.ref s1.heap.objs.size) H.objs.size) { s1 with heap := h₁, toks := s1.toks + ([] : List (Str × Value)).length } := by
    refine codeAny_compLoop_tests (CompAt g fiC cenv μ s it H.objs.size st.n a0 caps (lp st.n) J (fun st' => k (.own st.n) st')) (fun n s4 h4 => ?_) n ⟨μ2, .unb, _, 0, (S.trans S3).any, m.trans Same.mk', I3, lo0, oit2, ⟨_, eit3⟩, j1, f0, h⟩
    obtain ⟨μ4, z, st4, i, T4, m4, I4, L4, o4, ⟨oi4, e4⟩, j4, f4, h4⟩ := h4
    cases n with
    | zero => exact ((src _).zero _ _ _ h4).elim
    | succ n =>
      refine (src st.n).next n i μ4 st4 s4 _ _ _ I4 o4 j4 h4 (fun h' k' hk => ?_) fun v mv h' tk o sb eo jn V hb => ?_
      · have L5 : Lo g μ4 fiC cenv (z :: caps) h' := L4.but k' n1
        obtain ⟨m', hm', -⟩ := L5.vars
        exact hRR _ _ { s4 with heap := h' } m' μ4 st4 st.n (T4.last k' itn) (m4.trans Same.heap) (I4.but k' o4) ⟨L4.off, L4.base⟩ (nf _ C1) hm' ⟨a0, f4, by rw [ea]⟩ hk
      · have k' : ∀ b o, b ≠ it → s4.heap.get? b = some o → h'.get? b = some o := fun b o q z => (sb.2 b q).trans z
        have L5 : Lo g μ4 fiC cenv (z :: caps) h' := L4.but k' n1
        have I5 := I4.but k' o4
        have S5 : Step (fun b => b = it ∨ b = H.objs.size) μ4 μ4 s4.heap h' := Step.sameBut sb (.inl rfl) ⟨o, eo⟩
        refine wpAny_mono (PyProof.Rows.assign_Name (storeL (E := no') (Enc _) (s := { s4 with heap := h', toks := tk }) I5 L5 hnx V hkx)) (fun _ s6 h6 => ?_) fun _ _ z => z.elim
        obtain ⟨S6, m6, I6, L6⟩ := h6
        have eo6 : s6.heap.get? it = some o := S6.keep it o eo o4.1 itC
        have j6 : J (i + 1) μ4 s6.heap := (src st.n).keep _ _ _ _ _ _ o4 itC S6 jn
        have S6 : Step (fun b => b = it ∨ b = H.objs.size) μ4 μ4 h' s6.heap := S6.weaken fun b q => .inr q
        have L6 : Lo g μ4 fiC cenv (mv :: caps) s6.heap := L6
        have T6 := (T4.trans S5).trans S6
        have m6 := (m4.trans Same.mk').trans m6
        have hb : (t (mv :: caps) st4 fun c st' => Bool.rec (lp st.n n (i + 1) st' fun st' => k (.own st.n) st') (e (mv :: caps) st' fun v st' => addTo st' st.n v fun st' => lp st.n n (i + 1) st' fun st' => k (.own st.n) st') c) = true := hb
        refine wpAny_mono (hT A cenv μ4 (mv :: caps) st4 s6 _ R (Enc _) I6 L6 hb) (fun c s7 h7 => ?_) fun _ _ z => z.elim
        obtain ⟨μ7, st7, S7, m7, I7, h7⟩ := h7
        have o7 := o4.step S7 eo6
        have e7 := S7.keep it o eo6 o4.1 id
        have j7 : J (i + 1) μ7 s7.heap := (src st.n).keep _ _ _ _ _ none' o4 (fun z => z) S7 j6
        have L7 := L6.step S7
        have f7 := S7.ext.ρ_get f4
        cases c with
        | false =>
          simp only [Bool.false_eq_true, if_false]
          exact ⟨n, Nat.lt_succ_self _, μ7, mv, st7, i + 1, T6.trans S7.any, m6.trans m7, I7, L7, o7, ⟨_, e7⟩, j7, f7, h7⟩
        | true =>
          simp only [if_true]
          refine wpAny_mono (hE A cenv μ7 (mv :: caps) st7 s7 _ R (Enc _) I7 L7 h7) (fun w s8 h8 => ?_) fun _ _ z => z.elim
          obtain ⟨μ8, mw, st8, S8, m8, I8, V8, h8⟩ := h8
          have o8 := o7.step S8 e7
          have e8 := S8.keep it o e7 o7.1 id
          have j8 : J (i + 1) μ8 s8.heap := (src st.n).keep _ _ _ _ _ none' o7 (fun z => z) S8 j7
          have L8 := L7.step S8
          have f8 := S8.ext.ρ_get f7
          obtain ⟨ob, eb, h9⟩ := withObj_of h8
          obtain ⟨l, rfl, h10⟩ := lstOr_of h9
          obtain ⟨hl, h11⟩ := few_le h10
          obtain ⟨a, vs, nn, f, q, hT', W, sz, le⟩ := I8.lst (v := .ref a0.1) ⟨a0, f8, rfl⟩ eb
          rw [f8] at f; cases f
          rw [ea]
          refine call_meets PySem.F.slot_list_append ⟨_, hT', rfl⟩ PySem.F.entry_list_append (PySem.F.args_list_append_2 _ _) (PySem.list_append a0.1 vs nn w (fits (by omega))) ⟨hT', ?_⟩
          have hu := hT'.update fun xs => xs.push w
          obtain ⟨I9, S9⟩ := I8.set eb f8 (.inl rfl) (h' := s8.heap.update a0.1 (Obj.mapSeq fun xs => xs.push w)) (fun b hb => Heap.get?_update_other _ _ (Ne.symm hb)) ⟨_, hu⟩
            (mo' := .lst (l ++ [mw])) ⟨_, _, hu, by simpa using W.append (.one V8), hl⟩
          have e9 := S9.keep it o e8 o8.1 id
          have j9 : J (i + 1) μ8 (s8.heap.update a0.1 (Obj.mapSeq fun xs => xs.push w)) := (src st.n).keep _ _ _ _ _ none' o8 (fun z => z) S9 j8
          exact ⟨n, Nat.lt_succ_self _, μ8, mv, _, i + 1, ((T6.trans S7.any).trans S8.any).trans S9.any, ((m6.trans m7).trans m8).trans Same.mk', I9, L8.step S9, o8, ⟨_, e9⟩, j9, f8, h11⟩
  exact codeAny_compStart_list loop ((src st.n).self 0 μ2 _ _ _ j1 loop)
end
end Mine

open PySem PySem.W PySem.Calls PyProof.Rows
set_option Elab.async false
set_option maxRecDepth 100000
namespace Mine
/-! ## the three kinds of comprehension that stand in the program -/
noncomputable def relabelS (scope outer : Scope) : Scope := { scope with names := scope.names.map fun (n, k) => if (k == .free && outer.kind == .function && outer.names.lookup n == some .cell) then (n, .cell) else (n, k) }
theorem relabel_eq (scope : Scope) (env : Env) : relabel scope env = relabelS scope env.scope := rfl
noncomputable def cOk (x : Str) (scope : Scope) (cn : List Str) (outer : Scope) : Bool :=
  scope.kind == .function && scope.names.all (fun p => p.2 != .cell) && scope.names.all (fun p => p.2 != .free || cn.contains p.1) && scope.names.lookup x == some .local && scope.names.all (fun p => p.2 != .local || scope.names.lookup p.1 == some .local) &&
    decide ((x :: cn).Nodup) && cn.all (fun n => outer.names.lookup n == some .cell && (relabelS scope outer).names.lookup n == some .cell) && (relabelS scope outer).names.lookup x == some .local
section
variable {g : G} {d : Nat} {fi : FI} {x : Str} {scope : Scope} {cn : List Str}
theorem cOk_of {outer : Scope} (h : cOk x scope cn outer = true) : scope.kind = .function ∧ (∀ p ∈ scope.names, p.2 ≠ .cell) ∧ (∀ p ∈ scope.names, p.2 = .free → p.1 ∈ cn) ∧ scope.names.lookup x = some .local ∧ (∀ p ∈ scope.names, p.2 = .local → scope.names.lookup p.1 = some .local) ∧ (x :: cn).Nodup ∧
    (∀ n ∈ cn, outer.names.lookup n = some .cell ∧ (relabelS scope outer).names.lookup n = some .cell) ∧ (relabelS scope outer).names.lookup x = some .local := by
  unfold cOk at h
  simp only [Bool.and_eq_true, beq_iff_eq, List.all_eq_true, decide_eq_true_eq] at h
  obtain ⟨⟨⟨⟨⟨⟨⟨h1, h2⟩, h3⟩, h4⟩, h5⟩, h6⟩, h7⟩, h8⟩ := h
  refine ⟨h1, fun p hp => by simpa using h2 p hp, fun p hp q => ?_, h4, fun p hp q => ?_, h6, h7, h8⟩
  · have := h3 p hp; rw [q] at this; simpa using this
  · have := h5 p hp; rw [q] at this; simpa using this
theorem enc_of {env : Env} {cl : List (Str × Addr)} (En : EnvOk fi env) (h : cOk x scope cn fi.sc = true) (hc : ∀ n ∈ cn, ∃ c, cl.lookup n = some c) (C : Nat) : EnvOk ⟨x :: cn, relabelS scope fi.sc⟩ (compEnvC scope cl C env) := by
  obtain ⟨h1, h2, h3, h4, h5, h6, h7, h8⟩ := cOk_of h
  refine ⟨by show relabelS scope env.scope = _; rw [En.sc], h1, En.gl, En.bl, h6, fun y hy => ?_⟩
  have hy : (relabelS scope env.scope).names.lookup y = some .cell := hy
  obtain ⟨⟨n, k⟩, hm, e⟩ := List.mem_map.mp (mem_of_lookup hy)
  dsimp only at e
  split at e
  · rename_i hf
    cases e
    simp only [Bool.and_eq_true, beq_iff_eq] at hf
    exact hc y (h3 _ hm hf.1.1)
  · cases e
    exact absurd rfl (h2 _ hm)
theorem lo_none {env : Env} {μ : Wd} {C : Nat} {h : Heap} {fiC : FI} (o : Off μ C) (hn : h.Ns C fun _ => none) : Lo g μ fiC (compEnvC scope [] C env) [.unb] h :=
  ⟨o.1, o.2, fun x c hc => (by cases hc), .nil, _, hn, fun i x hi ne => by
    exfalso
    cases i with
    | zero => exact ne rfl
    | succ i => exact ne rfl⟩
theorem lo_one {env : Env} {μ : Wd} {C c j : Nat} {h : Heap} {n : Str} {loc : Mine.L} (En : EnvOk fi env) (ho : cOk x scope [n] fi.sc = true) (hj : fi.nm[j]? = some n) (hc : env.cells.lookup n = some c) (L : Lo g μ fi env loc h) (o : Off μ C) (nC : ¬ LEx env C) (hn : h.Ns C fun _ => none) :
    Lo g μ ⟨[x, n], relabelS scope fi.sc⟩ (compEnvC scope [(n, c)] C env) [.unb, lget loc j] h := by
  obtain ⟨h1, h2, h3, h4, h5, h6, h7, h8⟩ := cOk_of ho
  obtain ⟨k1, k2⟩ := h7 n (by simp)
  obtain ⟨m, hm, hv⟩ := L.vars
  have mc := mem_of_lookup hc
  refine ⟨o.1, o.2, fun y c' hc' => ?_, ?_, _, hn, fun i y hi ne => ?_⟩
  · have hc' : (y, c') ∈ [(n, c)] := hc'
    simp only [List.mem_singleton, Prod.mk.injEq] at hc'
    obtain ⟨rfl, rfl⟩ := hc'
    obtain ⟨a1, a2, a3, a4⟩ := L.cell _ _ mc
    exact ⟨fun q => nC (.inr ⟨_, q ▸ mc⟩), a2, a3, a4⟩
  · show List.Pairwise _ [(n, c)]
    simp
  · cases i with
    | zero => exact absurd rfl ne
    | succ i =>
      cases i with
      | zero =>
        have hi : some n = some y := hi
        cases hi
        have ne : lget loc j ≠ .unb := ne
        obtain ⟨v, V, q⟩ := hv j n hj ne
        have hk : env.kindOf n = some .cell := by show env.scope.names.lookup n = _; rw [En.sc]; exact k1
        rcases q with ⟨q1, _⟩ | ⟨_, c', q1, q2⟩
        · rw [hk] at q1; cases q1
        · rw [hc] at q1; cases q1
          refine ⟨v, V, .inr ⟨?_, c, by show List.lookup n [(n, c)] = _; simp, q2⟩⟩
          show (relabelS scope env.scope).names.lookup n = _
          rw [En.sc]; exact k2
      | succ i => cases hi
theorem src_list {A : Around} {it xi a : Nat} {t : Mine.Ts} {e : Mine.X} {caps : Mine.L} (R : A.handled = none) : Source g A it (fun n i st k => compL xi a t e n i caps st k) (turnB t e a caps) (fun i μ h => ∃ b, μ.ρ[xi]? = some b ∧ h.IsListIter it b.1 i) := by
  refine { zero := fun _ _ _ h => (nomatch h), next := ?_, keep := ?_, self := ?_ }
  rotate_left
  · rintro i μ μ' h h' Ex o n S ⟨b, f, ob, e1, r⟩
    exact ⟨b, S.ext.ρ_get f, ob, S.keep _ _ e1 o.1 n, r⟩
  · rintro i μ s Q E ⟨b, f, hit⟩ h
    exact wpAny_pyIter_listiter hit h
  · rintro n i μ st s k Q E I o ⟨b, f, hit⟩ h hN hS
    have h : (withObj st xi fun o => lstOr o fun l => Bool.rec (k st) (okK (lget l i) fun y => turnB t e a caps y st (fun st => compL xi a t e n (i + 1) caps st k)) (Nat.blt i l.length)) = true := h
    obtain ⟨ob, eo, h1⟩ := withObj_of h
    obtain ⟨l, rfl, h2⟩ := lstOr_of h1
    obtain ⟨b', vs, nn, f', q, hT, W, sz, le⟩ := I.lst (v := .ref b.1) ⟨b, f, rfl⟩ eo
    rw [f] at f'; cases f'
    rcases bool_of h2 with ⟨hj, h3⟩ | ⟨hj, h3⟩
    · obtain ⟨ne, h4⟩ := okK_of h3
      obtain ⟨v, hv, V, hlt⟩ := got_item W ne
      refine wpAny_pyNext_list_item hit hT.isList hv fun h' it' sb => ?_
      obtain ⟨oi, ei, ri⟩ := id it'
      exact hS v _ h' s.toks oi sb ei ⟨b, f, it'⟩ V h4
    · have hj : ¬ i < l.length := fun z => by rw [Nat.blt_eq.mpr z] at hj; cases hj
      exact wpAny_pyNext_list_end R hit hT.isList (by simp; omega) fun h' eb => hN h' eb h3
theorem src_range {A : Around} {it mm a : Nat} {t : Mine.Ts} {e : Mine.X} {caps : Mine.L} (R : A.handled = none) : Source g A it (fun n i st k => compR a t e n i mm caps st k) (turnB t e a caps) (fun i _ h => IsRangeIter h it (i : Nat) ((mm : Int) - (i : Nat)) 1) := by
  refine { zero := fun _ _ _ h => (nomatch h), next := ?_, keep := ?_, self := ?_ }
  rotate_left
  · intro i μ μ' h h' Ex o n S z
    exact S.keep _ _ z o.1 n
  · intro i μ s Q E z h
    have W := Walks.range (prog := g.prog) (w := g.w) (A := A) R it 0 1 mm
    refine W.self i s Q E ?_ h
    show IsRangeIter _ _ _ _ _
    rw [show (0 : Int) + (i : Int) * 1 = (i : Int) by omega]
    exact z
  · intro n i μ st s k Q E I o hit h hN hS
    have h : (Bool.rec (k st) (turnB t e a caps (.int (.ofNat i)) st (fun st => compR a t e n (i + 1) mm caps st k)) (Nat.blt i mm) : Bool) = true := h
    rcases bool_of h with ⟨hj, h3⟩ | ⟨hj, h3⟩
    · have hj := Nat.le_of_ble_eq_true hj
      refine wpAny_pyNext_range_item hit (by omega) fun h' it' sb => ?_
      refine hS _ (.int (.ofNat i)) h' (s.toks + 1) _ sb it' ?_ ⟨_, rfl⟩ h3
      show IsRangeIter _ _ _ _ _
      rw [show ((i + 1 : Nat) : Int) = (i : Int) + 1 by omega, show (mm : Int) - ((i : Int) + 1) = (mm : Int) - i - 1 by omega]
      exact it'
    · have hj : ¬ i < mm := fun z => by rw [Nat.blt_eq.mpr z] at hj; cases hj
      exact wpAny_pyNext_range_end R hit (by omega) fun h' eb => hN h' eb h3
theorem closure0 {env : Env} (h : ∀ p ∈ scope.names, p.2 = .free → p.1 ∈ ([] : List Str)) : closureFor scope env = pure [] := closureFor_none fun p hp q => by have := h p hp q; cases this
/-- the loop's end, where nothing else is done -/
theorem post_of {A : Around} {μ : Wd} {s : Shared} {it : Nat} {k : Mine.K} (itn : s.heap.get? it = none) {acc : Value} {C : Nat} {s' : Shared} {m' : Str → Option Value} {μ2 : Wd} {st2 : Mine.St} {a : Nat} (T : Step (fun b => b = it ∨ b = C) μ μ2 s.heap s'.heap) (q : Same s s') (I : Hp g μ2 st2 s'.heap) (o : Off μ2 C) (cn : s.heap.get? C = none) (hn : s'.heap.Ns C m') (V : VR g μ2 acc (.own a)) (h : k (.own a) st2 = true) :
    compPost (model g.prog g.w) A no' none (Ret g k μ s) acc C (.ok .next) s' := by
  refine ⟨m', hn, fun h' sb => ?_⟩
  have kk : ∀ b o, b ≠ C → s'.heap.get? b = some o → h'.get? b = some o := fun b o n z => (sb.2 b n).trans z
  have S : Step none' μ μ2 s.heap s'.heap := (Step.refl μ s.heap).drop T fun b q => .inr (by rcases q with rfl | rfl <;> assumption)
  exact ⟨μ2, .own a, st2, S.last kk cn, q.trans Same.heap, I.but kk o, V, h⟩
theorem old_of {μ : Wd} {st : Mine.St} {h : Heap} {xi : Nat} {v : Value} {mo mo' : MO} (I : Hp g μ st h) (V : VR g μ v (.own xi)) (e : (st.h.set st.n mo).get xi = some mo') : st.h.get xi = some mo' := by
  rcases T.set_get e with ⟨q, _⟩ | ⟨_, q⟩
  · obtain ⟨a, f, _⟩ := V
    have := (List.getElem?_eq_some_iff.mp f).1
    rw [I.nρ] at this; omega
  · exact q
theorem compL_list {xi a n : Nat} {t : Mine.Ts} {e : Mine.X} {i : Nat} {caps : Mine.L} {st : Mine.St} {k : Mine.St → Bool} (h : compL xi a t e n i caps st k = true) : ∃ l, st.h.get xi = some (.lst l) := by
  cases n with
  | zero => cases h
  | succ n =>
    obtain ⟨o, e, h1⟩ := withObj_of (show withObj st xi _ = true from h)
    obtain ⟨l, rfl, _⟩ := lstOr_of h1
    exact ⟨l, e⟩
/-- a list is gone through: its iterator -/
theorem iter_list {A : Around} {env : Env} {μ : Wd} {loc : Mine.L} {st : Mine.St} {s : Shared} {xi : Nat} {v : Value} {l : Mine.L} {Q : Value → Shared → Prop} {E : Value → Shared → Prop} (I : Hp g μ st s.heap) (L : Lo g μ fi env loc s.heap) (V : VR g μ v (.own xi)) (e : st.h.get xi = some (.lst l))
    (h : ∀ s1, Step none' μ μ s.heap s1.heap → Same s s1 → Hp g μ st s1.heap → Off μ s.heap.objs.size → (∃ o, s1.heap.get? s.heap.objs.size = some o) → ¬ LEx env s.heap.objs.size → (∃ b, μ.ρ[xi]? = some b ∧ s1.heap.IsListIter s.heap.objs.size b.1 0) → Q (.ref s.heap.objs.size) s1) : wpAny (model g.prog g.w) A (pyIter v) Q E s := by
  obtain ⟨a, vs, nn, f, rfl, hT, -, -, -⟩ := I.lst V e
  refine wpAny_pyIter_list hT.isList ?_
  obtain ⟨I2, S2⟩ := I.junk { cls := .type "list_iterator", data := .fields #[.ref a.1, .int 0 0] }
  exact h { s with heap := s.heap.push { cls := .type "list_iterator", data := .fields #[.ref a.1, .int 0 0] } } S2 Same.heap I2 (I.offNew (none_at _)) ⟨_, Heap.get?_push_size _ rfl⟩ (L.notLEx (none_at _)) ⟨a, f, _, Heap.get?_push_size _ rfl, rfl, rfl⟩
theorem se_compL0 {elt iter : Expr} {px lpos : Pos} {ifs : List Expr} {n : Nat} {mi e : Mine.X} {t : Mine.Ts} (hi : SE g d fi iter mi) (ho : cOk x scope [] fi.sc = true) (hT : TS g d ⟨[x], relabelS scope fi.sc⟩ ifs t) (hE : SE g d ⟨[x], relabelS scope fi.sc⟩ elt e) (hf : ∀ env v, foldedSetIterable iter env v = pure v := by k_dflt (intro _ _; rfl)) :
    SE g d fi (.ListComp elt [⟨.Name x px, iter, ifs, 0⟩] scope lpos) (xComp n mi [] t e) := by
  intro A env μ loc st s k R En I L h
  obtain ⟨h1, h2, h3, h4, h5, h6, h7, h8⟩ := cOk_of ho
  rw [eval_ListComp]
  refine wpAny_comprehension_free (use := none) rfl (hf env) (closure0 h3) h1 h5 (un hi R En I L h fun v μ2 mv st2 s2 S m I2 L2 V h => ?_)
  obtain ⟨xi, rfl, hh⟩ := ifOwn_of h
  have hh : (alloc (.lst []) st2 fun a st => ifOwn a fun a => compL xi a t e n 0 [] st fun st => k (.own a) st) = true := hh
  obtain ⟨l, el⟩ := compL_list (show compL xi st2.n t e n 0 [] _ _ = true from alloc_of hh)
  refine iter_list I2 L2 V (old_of I2 V el) fun s3 S3 m3 I3 oit eit nit hit => ?_
  have itn : s.heap.get? s2.heap.objs.size = none := S.fresh (none_at _)
  exact comp_core (n := n) (k := k) (lp := fun a n i st k => compL xi a t e n i [] st k) (RR := fun acc C => compPost (model g.prog g.w) A no' none (Ret g k μ s) acc C) (fun a => src_list R.1) hT hE R (fun C => enc_of En ho (fun n hn => by cases hn) C) h2 h1 rfl h8 (S.trans S3) (m.trans m3) I3 (L2.step S3)
    (fun x c hc => by cases hc) (fun C h μ' _ o _ hn => lo_none o hn) oit itn eit nit hit hh fun acc C s' m' μ4 st4 a T q I o cn hn V h => post_of itn T q I o cn hn V h
theorem se_compR1 {elt : Expr} {iter : Expr} {np px lpos cp : Pos} {ifs : List Expr} {n j : Nat} {nm : Str} {mi e : Mine.X} {t : Mine.Ts} {K : Frag} (C : Top0 g K) (B : BName K fi "range") (hi : SE g d fi iter mi) (ho : cOk x scope [nm] fi.sc = true) (hj : fi.nm[j]? = some nm) (hcl : ∀ (env : Env) c, env.cells.lookup nm = some c → closureFor scope env = pure [(nm, c)])
    (hT : TS g d ⟨[x, nm], relabelS scope fi.sc⟩ ifs t) (hE : SE g d ⟨[x, nm], relabelS scope fi.sc⟩ elt e) (h1' : One iter := by k_dflt (intro _; rfl)) :
    SE g d fi (.ListComp elt [⟨.Name x px, .Call (.Name "range" np) [iter] [] cp, ifs, 0⟩] scope lpos) (xCompR n mi [j] t e) := by
  intro A env μ loc st s k R En I L h
  obtain ⟨h1, h2, h3, h4, h5, h6, h7, h8⟩ := cOk_of ho
  have hk : env.kindOf nm = some .cell := by show env.scope.names.lookup nm = _; rw [En.sc]; exact (h7 nm (by simp)).1
  obtain ⟨c, hc⟩ := En.cl nm hk
  rw [eval_ListComp]
  refine wpAny_comprehension_free (use := none) rfl (fun _ => rfl) (hcl env c hc) h1 h5 ?_
  refine Call_Name1 (built_of C En I B.1 boot_range (by decide) B.2 (PySem.callWith_type1 (un hi R En I L h fun v μ2 mv st2 s2 S m I2 L2 V h => ?_))) (h1' env)
  obtain ⟨mm, rfl, hh1⟩ := natV_of h
  rcases bool_of hh1 with ⟨hm, hh2⟩ | ⟨_, hh2⟩
  case inr => cases hh2
  have hm := Nat.le_of_ble_eq_true hm
  have hh : (alloc (.lst []) st2 fun a st => ifOwn a fun a => compR a t e n 0 mm [lget loc j] st fun st => k (.own a) st) = true := hh2
  obtain ⟨tt, rfl⟩ := V
  refine call_range_1 ?_
  refine wpAny_pyIter_range (IsRange.new ..) (small_one (by omega) (by omega) (by omega) (by omega)) ?_
  obtain ⟨Ia, Sa⟩ := I2.junk { cls := .type "range", data := .fields #[.int 0 s2.toks, .int mm tt, .int 1 (s2.toks + 1)] }
  obtain ⟨I3, Sb⟩ := Ia.junk { cls := .type "range_iterator", data := .fields #[rawInt 0, rawInt (Builtin.Range.rangeSize 0 mm 1), rawInt 1] }
  have hit : IsRangeIter ((s2.heap.push { cls := .type "range", data := .fields #[.int 0 s2.toks, .int mm tt, .int 1 (s2.toks + 1)] }).push { cls := .type "range_iterator", data := .fields #[rawInt 0, rawInt (Builtin.Range.rangeSize 0 mm 1), rawInt 1] }) (s2.heap.push { cls := .type "range", data := .fields #[.int 0 s2.toks, .int mm tt, .int 1 (s2.toks + 1)] }).objs.size ((0 : Nat) : Int) ((mm : Int) - ((0 : Nat) : Int)) 1 := by
    have e : Builtin.Range.rangeSize 0 (mm : Int) 1 = (mm : Int) - ((0 : Nat) : Int) := by rw [rangeSize_one]; split <;> omega
    rw [← e]
    exact Heap.get?_push_size _ rfl
  have itn : s.heap.get? (s2.heap.push { cls := .type "range", data := .fields #[.int 0 s2.toks, .int mm tt, .int 1 (s2.toks + 1)] }).objs.size = none := (S.trans Sa).fresh (none_at _)
  exact comp_core (n := n) (k := k) (lp := fun a n i st k => compR a t e n i mm [lget loc j] st k) (RR := fun acc C => compPost (model g.prog g.w) A no' none (Ret g k μ s) acc C) (s1 := { s2 with heap := _, toks := _ }) (fun a => src_range R.1) hT hE R
    (fun C => enc_of En ho (fun n hn => by simp at hn; subst hn; exact ⟨c, by simp⟩) C) h2 h1 rfl h8 ((S.trans Sa).trans Sb) (m.trans Same.mk') I3 ((L2.step Sa).step Sb)
    (fun x c' hc' => by simp at hc'; obtain ⟨rfl, rfl⟩ := hc'; exact ⟨_, mem_of_lookup hc⟩) (fun C h μ' L o nC hn => lo_one En ho hj hc L o nC hn) (Ia.offNew (none_at _)) itn ⟨_, hit⟩ ((L2.step Sa).notLEx (none_at _)) hit hh
    fun acc C s' m' μ4 st4 a T q I o cn hn V h => post_of itn T q I o cn hn V h
theorem sl_compL1 {elt iter : Expr} {y : Str} {px py lpos spos : Pos} {ifs : List Expr} {n j iy : Nat} {nm : Str} {mi e : Mine.X} {t : Mine.Ts} {rest : List Stmt} {mr : Mine.S} (hi : SE g d fi iter mi) (ho : cOk x scope [nm] fi.sc = true) (hj : fi.nm[j]? = some nm) (hcl : ∀ (env : Env) c, env.cells.lookup nm = some c → closureFor scope env = pure [(nm, c)])
    (hT : TS g d ⟨[x, nm], relabelS scope fi.sc⟩ ifs t) (hE : SE g d ⟨[x, nm], relabelS scope fi.sc⟩ elt e) (hr : SL g d fi rest mr) (hy : okN fi y iy = true) (hsw : ∀ env, env.scope = fi.sc → swapsWith (.ListComp elt [⟨.Name x px, iter, ifs, 0⟩] scope lpos) (some (.Name y py)) spos.line env = pure true) (hf : ∀ env v, foldedSetIterable iter env v = pure v := by k_dflt (intro _ _; rfl)) :
    SL g d fi (.Assign [.Name y py] (.ListComp elt [⟨.Name x px, iter, ifs, 0⟩] scope lpos) spos :: rest) (sAsg iy (xComp n mi [j] t e) mr) := by
  intro A env μ loc st s kn kr kb kc R En I L h
  obtain ⟨h1, h2, h3, h4, h5, h6, h7, h8⟩ := cOk_of ho
  have hk : env.kindOf nm = some .cell := by show env.scope.names.lookup nm = _; rw [En.sc]; exact (h7 nm (by simp)).1
  obtain ⟨c, hc⟩ := En.cl nm hk
  obtain ⟨y1, y2⟩ := okN_of hy
  refine wpAny_execs_cons ?_
  rw [exec_Assign_Name_used _ _ _ _ (hsw env En.sc)]
  refine wpAny_bind (wpAny_standAt (wpAny_bind ?_))
  show wpAny _ A (do let _ ← comprehension (.ListComp elt [⟨.Name x px, iter, ifs, 0⟩] scope lpos) scope env _ (newList []) false (eval iter env) (some (assign (.Name y py) env))) _ _ s
  refine wpAny_bind (wpAny_mono (wpAny_comprehension_free (use := some (assign (.Name y py) env)) (Q := fun _ s' => wpAny (model g.prog g.w) A (execs rest env) (RetF g fi env kn kr kb kc μ s) no' s') rfl (hf env) (hcl env c hc) h1 h5
    (un hi R En I L h fun v μ2 mv st2 s2 S m I2 L2 V h => ?_)) (fun _ s' hq => wpAny_pure (wpAny_pure hq)) fun _ _ e => e)
  obtain ⟨xi, rfl, hh⟩ := ifOwn_of h
  have hh : (alloc (.lst []) st2 fun a st => ifOwn a fun a => compL xi a t e n 0 [lget loc j] st fun st => mr (lset loc iy (.own a)) st kn kr kb kc) = true := hh
  obtain ⟨l, el⟩ := compL_list (show compL xi st2.n t e n 0 [lget loc j] _ _ = true from alloc_of hh)
  refine iter_list I2 L2 V (old_of I2 V el) fun s3 S3 m3 I3 oit eit nit hit => ?_
  have itn : s.heap.get? s2.heap.objs.size = none := S.fresh (none_at _)
  refine comp_core (n := n) (k := fun v st => mr (lset loc iy v) st kn kr kb kc) (lp := fun a n i st k => compL xi a t e n i [lget loc j] st k) (RR := fun acc C => compPost (model g.prog g.w) A no' (some (assign (.Name y py) env)) (fun _ s' => wpAny (model g.prog g.w) A (execs rest env) (RetF g fi env kn kr kb kc μ s) no' s') acc C) (fun a => src_list R.1) hT hE R
    (fun C => enc_of En ho (fun n hn => by simp at hn; subst hn; exact ⟨c, by simp⟩) C) h2 h1 rfl h8 (S.trans S3) (m.trans m3) I3 (L2.step S3)
    (fun x c' hc' => by simp at hc'; obtain ⟨rfl, rfl⟩ := hc'; exact ⟨_, mem_of_lookup hc⟩) (fun C h μ' L o nC hn => lo_one En ho hj hc L o nC hn) oit itn eit nit hit hh fun acc C s' m' μ4 st4 a T q I4 o cn hn V4 h4 => ?_
  have inS : ∀ b, LEx env b → s.heap.get? b ≠ none := fun b hb e => L.notLEx e hb
  have L4 : Lo g μ4 fi env loc s'.heap := L.stepG T fun b hb z => by
    rcases z with rfl | rfl
    · exact inS _ hb itn
    · exact inS _ hb cn
  have nC : ¬ LEx env C := fun z => inS _ z cn
  show wpAny _ A (assign (.Name y py) env acc) _ _ s'
  refine PyProof.Rows.assign_Name (wpAny_mono (store En I4 L4 y1 V4 y2) (fun _ s5 Z => ?_) fun _ _ z => z)
  obtain ⟨o', es, ep, e1, r⟩ := id hn
  refine ⟨m', ⟨o', es, ep, Z.S.keep _ _ e1 o.1 nC, r⟩, fun h' sb => ?_⟩
  have kk : ∀ b o, b ≠ C → s5.heap.get? b = some o → h'.get? b = some o := fun b o n z => (sb.2 b n).trans z
  have S4 : Step none' μ μ4 s.heap s'.heap := (Step.refl μ s.heap).drop T fun b q => .inr (by rcases q with rfl | rfl <;> assumption)
  exact hr.run (s1 := { s5 with heap := h' }) R En ((S4.any.trans Z.S).last kk cn) (q.trans (Z.m.trans Same.heap)) (Z.I.but kk o) (Z.L.but kk nC) h4
end
end Mine

open PySem PySem.W PySem.Calls PyProof.Rows
set_option Elab.async false
set_option maxRecDepth 100000
namespace Mine
/-! ## the cuts: a part is shown from a state that knows less -/
open Classical in
/-- all that stands, but for the frame's own -/
noncomputable def small (env : Env) (h : Heap) (σ : List Int) : Wd := ⟨[], σ, fun b => if LEx env b then none else h.get? b⟩
section
variable {g : G} {d : Nat} {fi : FI} {K : Frag} {env : Env} {μ : Wd} {loc : Mine.L} {st : Mine.St} {s : Shared}
theorem LEx.none0 (L : Lo g μ fi env loc s.heap) {b : Nat} (h : LEx env b) : μ.H b = none ∧ ¬ Foot μ b := by
  rcases h with rfl | ⟨x, hx⟩
  · exact ⟨L.base, L.off⟩
  · obtain ⟨_, a2, a3, _⟩ := L.cell x b hx; exact ⟨a3, a2⟩
theorem small_h {h : Heap} {σ : List Int} {b : Nat} (n : ¬ LEx env b) : (small env h σ).H b = h.get? b := if_neg n
theorem small_hL {h : Heap} {σ : List Int} {b : Nat} (n : LEx env b) : (small env h σ).H b = none := if_pos n
theorem small_hp {n : Nat} {σ : List Int} (I : Hp g μ st s.heap) (L : Lo g μ fi env loc s.heap) (hn : σ.length = n) : Hp g (small env s.heap σ) ⟨.nil, 0, n, []⟩ s.heap := by
  refine ⟨fun b o e => ?_, fun b o e => ?_, rfl, hn, fun i mo e => (by cases e), fun a ha => (by cases ha), fun a ha => (by cases ha), fun i j a b _ ha _ => (by cases ha), fun p hp => (by cases hp)⟩
  · have : ¬ LEx env b := fun z => by have := (LEx.none0 L z).1; rw [I.base b o e] at this; cases this
    rw [small_h this]; exact I.h0 b o e
  · by_cases z : LEx env b
    · rw [small_hL z] at e; cases e
    · rw [small_h z] at e; exact e
theorem small_lo {σ : List Int} {loc' : Mine.L} (L : Lo g μ fi env loc s.heap) (hv : ∀ m, s.heap.Ns env.locals m → (∀ i x, fi.nm[i]? = some x → lget loc i ≠ .unb → ∃ v, VR g μ v (lget loc i) ∧ ((env.kindOf x = some .local ∧ m x = some v) ∨ (env.kindOf x = some .cell ∧ ∃ c, env.cells.lookup x = some c ∧ s.heap.IsCell c (some v)))) →
      ∀ i x, fi.nm[i]? = some x → lget loc' i ≠ .unb → ∃ v, VR g (small env s.heap σ) v (lget loc' i) ∧ ((env.kindOf x = some .local ∧ m x = some v) ∨ (env.kindOf x = some .cell ∧ ∃ c, env.cells.lookup x = some c ∧ s.heap.IsCell c (some v)))) : Lo g (small env s.heap σ) fi env loc' s.heap := by
  have nf : ∀ b, ¬ Foot (small env s.heap σ) b := fun b ⟨a, ha, _⟩ => by cases ha
  obtain ⟨m, hn, h⟩ := L.vars
  refine ⟨nf _, small_hL (.inl rfl), fun x c hc => ?_, L.ap, m, hn, hv m hn h⟩
  obtain ⟨a1, _, _, a4⟩ := L.cell x c hc
  exact ⟨a1, nf _, small_hL (.inr ⟨x, hc⟩), a4⟩
/-- what was there still stands -/
theorem small_keep {Ex : Nat → Prop} {σ : List Int} {μ2 : Wd} {h' : Heap} (S : Step Ex (small env s.heap σ) μ2 s.heap h') : ∀ b o, s.heap.get? b = some o → ¬ Ex b → h'.get? b = some o := fun b o e n => S.keep b o e (fun ⟨a, ha, _⟩ => by cases ha) n
theorem keep_step {h h' : Heap} (k : ∀ b o, h.get? b = some o → h'.get? b = some o) : Step none' μ μ h h' := ⟨⟨[], by simp⟩, ⟨[], by simp⟩, fun _ _ z => z, fun _ _ z => .inl z, fun b o z _ _ => k b o z, fun b o z => ⟨o, k b o z⟩⟩
end
/-! the table of met rows -/
noncomputable def metB (m : Mine.S) (p : List Nat × Bool) : Bool := bodyK m [.code, .str p.1] ⟨.nil, 0, 0, []⟩ fun v _ => ifBool v fun c => Bool.rec (!p.2) p.2 c
section
variable {g : G} {d : Nat} {fi : FI} {K : Frag}
theorem lookup_mem {t : List (List Nat × Bool)} {s : List Nat} {b : Bool} (h : lookup t s = some b) : (s, b) ∈ t := by
  induction t with
  | nil => cases h
  | cons p t ih =>
    have h : (Bool.rec (lookup t s) (some p.2) (strB p.1 s) : Option Bool) = some b := h
    cases q : strB p.1 s with
    | false => rw [q] at h; exact List.mem_cons_of_mem _ (ih h)
    | true =>
      rw [q] at h
      have h : some p.2 = some b := h
      cases h
      have := (strB_iff _ _).mp q
      subst this
      exact List.mem_cons_self ..
theorem se_met {x : Str} {np pos : Pos} {f d' : Nat} {m : Mine.S} {a b : Expr} {ma mb : Mine.X} {t : List (List Nat × Bool)} (C : Top0 g K) (eN : nsIn K mainGlobals x = some (some (.ref f))) (hx : fi.sc.names.lookup x = some .globalImplicit) (hdb : (x == ("__debug__" : Str)) = false) (hk : keepIn K (.ref f) = true) (hF : FC g d' f 2 m) (hd : d' ≤ d)
    (ha : SE g d fi a ma) (hb : SE g d fi b mb) (ht : ∀ p ∈ t, metB m p = true) (hm' : ∀ loc st k, xMet t ma mb loc st k = true → (yCons ma (yCons mb yNil)) loc st (fun vs st => List.rec false (fun x r _ => List.rec false (fun y _ _ => ifStr y fun s => Option.rec false (fun b => isCodeV x (k (.bool b) st)) (lookup t s)) r) vs) = true := by k_dflt (intro _ _ _ h; exact h))
    (h1' : ∀ env, starEach [a, b] env = (false, eval a env) :: starEach [b] env := by k_dflt (intro _; rfl)) (h2' : One b := by k_dflt (intro _; rfl)) (hp : Plain [a, b] := by k_dflt (intro _ _; exact ⟨rfl, rfl⟩)) : SE g d fi (.Call (.Name x np) [a, b] [] pos) (xMet t ma mb) := by
  intro A env μ loc st s k R En I L h
  refine Call_Name rfl (glob_of C En I eN hx (call_args C hk hp (ses_cons ha (ses_cons hb ses_nil h2') h1') R En I L (hm' _ _ _ h) fun vs μ2 mvs st2 s2 S2 m2 I2 W2 n2 z => ?_) hdb)
  cases W2 with
  | nil => cases z
  | @cons vx x' vs mvs V1 W2 =>
  cases W2 with
  | nil => cases z
  | @cons vy y' vs mvs V2 W2 =>
  have e0 : vs = [] := by simp at n2; exact n2
  subst e0
  cases W2
  have z : (ifStr y' fun s => Option.rec false (fun b => isCodeV x' (k (.bool b) st2)) (lookup t s)) = true := z
  obtain ⟨r, rfl, z1⟩ := ifStr_of z
  cases q : lookup t r with
  | none => rw [q] at z1; cases z1
  | some bb =>
    rw [q] at z1
    have hc : x' = .code ∧ k (.bool bb) st2 = true := by cases x' <;> first | exact ⟨rfl, z1⟩ | cases z1
    obtain ⟨rfl, hk2⟩ := hc
    have hmet := ht _ (lookup_mem q)
    let μ3 : Wd := ⟨[], [], s2.heap.get?⟩
    have I3 : Hp g μ3 ⟨.nil, 0, 0, []⟩ s2.heap := ⟨I2.h0, fun _ _ e => e, rfl, rfl, fun i mo e => (by cases e), fun a ha => (by cases ha), fun a ha => (by cases ha), fun i j a b _ ha _ => (by cases ha), fun p hp => (by cases hp)⟩
    have V1' : VR g μ3 vx .code := by obtain ⟨c, e, hc⟩ := V1; exact ⟨c, e, hc.mono I2.keep⟩
    refine wpAny_mono (hF.run hd R (Step.refl μ3 s2.heap) (Same.refl _) I3 (.cons V1' (.cons (show VR g μ3 vy (.str r) from V2) .nil)) rfl hmet) (fun v s4 h4 => ?_) fun _ _ z => z
    obtain ⟨μ4, mv, st4, S4, m4, I4, V4, h4⟩ := h4
    obtain ⟨cc, rfl, h5⟩ := ifBool_of h4
    obtain rfl : v = .bool cc := V4
    have e : cc = bb := by cases cc <;> cases bb <;> first | rfl | cases h5
    subst e
    have kk : ∀ b o, s2.heap.get? b = some o → s4.heap.get? b = some o := fun b o e => S4.keep b o e (fun ⟨a, ha, _⟩ => by cases ha) id
    exact ⟨μ2, .bool cc, st2, S2.trans (keep_step kk), m2.trans m4, I2.other fun b o e _ => kk b o e, rfl, hk2⟩
/-! the compiled pattern -/
/-- two written values: the same None, int or str -/
noncomputable def litB (a b : MV) : Bool := MV.rec false (isNone b fun c => c) (fun _ => false) (fun x => ifInt b fun y => eqB x y) (fun x => ifStr b fun y => strB x y) (fun _ => false) (fun _ => false) false (fun _ => false) (fun _ => false) a
noncomputable def litsB (a : Mine.L) : Mine.L → Bool := List.rec (fun b => List.rec true (fun _ _ _ => false) b) (fun x _ ih b => List.rec false (fun y b' _ => Bool.rec false (ih b') (litB x y)) b) a
noncomputable def rowsB (code : O1) (st : Mine.St) (l : Mine.L) : Nat → Bool := List.rec (fun _ => true) (fun v _ ih j => ifOwn v fun i => withObj st i fun o => tupOr o fun t => Option.rec false (fun t' => Bool.rec false (ih (Nat.succ j)) (litsB t t')) (code.get j)) l
noncomputable def allI (t : O1) : (Nat → Bool) → Bool := O1.rec (fun _ => true) (fun _ _ _ ihl ihr f => Bool.rec false (Bool.rec false (ihr fun j => f (Nat.succ (Nat.succ (Nat.mul 2 j)))) (ihl fun j => f (Nat.succ (Nat.mul 2 j)))) (f 0)) t
noncomputable def isCode (code : O1) (v : MV) (st : Mine.St) : Bool := onLst v st fun _ l => Bool.rec false (Bool.rec false (allI code fun j => Nat.blt j l.length) (rowsB code st l 0)) (Nat.ble l.length 1000)
theorem O1.get_node (v : Mine.L) (l r : O1) (i : Nat) : (O1.node v l r).get i = if i = 0 then some v else if i % 2 = 1 then l.get (i / 2) else r.get (i / 2 - 1) := by
  show (Bool.rec (Bool.rec (r.get (Nat.sub (Nat.div i 2) 1)) (l.get (Nat.div i 2)) (Nat.beq (Nat.mod i 2) 1)) (some v) (Nat.beq i 0) : Option Mine.L) = _
  cases q : Nat.beq i 0 with
  | true => have := Nat.eq_of_beq_eq_true q; rw [if_pos this]
  | false =>
    have : ¬ i = 0 := fun z => by subst z; cases q
    rw [if_neg this]
    cases q2 : Nat.beq (Nat.mod i 2) 1 with
    | true => have : i % 2 = 1 := Nat.eq_of_beq_eq_true q2; rw [if_pos this]; rfl
    | false =>
      have : ¬ i % 2 = 1 := fun z => by have : Nat.mod i 2 = 1 := z; rw [this] at q2; cases q2
      rw [if_neg this]; rfl
theorem allI_of : ∀ {t : O1} {f : Nat → Bool}, allI t f = true → ∀ {i : Nat} {v : Mine.L}, t.get i = some v → f i = true
  | .nil, _, _, _, _, h => by cases h
  | .node v l r, f, h, i, w, hg => by
    have h : (Bool.rec false (Bool.rec false (allI r fun j => f (Nat.succ (Nat.succ (Nat.mul 2 j)))) (allI l fun j => f (Nat.succ (Nat.mul 2 j)))) (f 0) : Bool) = true := h
    rcases bool_of h with ⟨h0, h1⟩ | ⟨_, h1⟩
    case inr => cases h1
    rcases bool_of h1 with ⟨h2, h3⟩ | ⟨_, h3⟩
    case inr => cases h3
    rw [O1.get_node] at hg
    split at hg
    · rename_i e; rw [e]; exact h0
    · split at hg
      · have := allI_of h2 hg
        have e : Nat.succ (Nat.mul 2 (i / 2)) = i := by show 2 * (i / 2) + 1 = i; omega
        rw [e] at this; exact this
      · have := allI_of h3 hg
        have e : Nat.succ (Nat.succ (Nat.mul 2 (i / 2 - 1))) = i := by show 2 * (i / 2 - 1) + 1 + 1 = i; omega
        rw [e] at this; exact this
theorem litB_of {μ : Wd} {v : Value} {a b : MV} (V : VR g μ v a) (h : litB a b = true) : LitR v b := by
  cases a with
  | none => cases b <;> first | exact V | cases h
  | int i =>
    obtain ⟨j, rfl, h1⟩ := ifInt_of (show ifInt b (fun y => eqB i y) = true from h)
    rw [eqB_eq] at h1
    have e : i = j := by simpa using h1
    subst e; exact V
  | str i =>
    obtain ⟨j, rfl, h1⟩ := ifStr_of (show ifStr b (fun y => strB i y) = true from h)
    have e := (strB_iff _ _).mp h1
    subst e; exact V
  | _ => cases h
theorem litsB_of {μ : Wd} : ∀ {vs : List Value} {a b : Mine.L}, All2 (VR g μ) vs a → litsB a b = true → All2 LitR vs b
  | _, _, [], .nil, _ => .nil
  | _, _, _ :: _, .nil, h => nomatch h
  | _, _, [], .cons _ _, h => nomatch h
  | _ :: _, x :: xs, y :: ys, .cons V W, h => by
    have h : (Bool.rec false (litsB xs ys) (litB x y) : Bool) = true := h
    rcases bool_of h with ⟨h0, h1⟩ | ⟨_, h1⟩
    · exact .cons (litB_of V h0) (litsB_of W h1)
    · cases h1
theorem rowsB_of {code : O1} {st : Mine.St} : ∀ {l : Mine.L} {j i : Nat} {v : MV}, rowsB code st l j = true → l[i]? = some v → ∃ o t t', v = .own o ∧ st.h.get o = some (.tup t) ∧ code.get (j + i) = some t' ∧ litsB t t' = true
  | [], _, _, _, _, h => by simp at h
  | x :: l, j, i, v, h, e => by
    have h : (ifOwn x fun i => withObj st i fun o => tupOr o fun t => Option.rec false (fun t' => Bool.rec false (rowsB code st l (Nat.succ j)) (litsB t t')) (code.get j)) = true := h
    obtain ⟨o, rfl, h1⟩ := ifOwn_of h
    obtain ⟨ob, eo, h2⟩ := withObj_of h1
    obtain ⟨t, rfl, h3⟩ := tupOr_of h2
    cases q : code.get j with
    | none => rw [q] at h3; cases h3
    | some t' =>
      rw [q] at h3
      have h3 : (Bool.rec false (rowsB code st l (Nat.succ j)) (litsB t t') : Bool) = true := h3
      rcases bool_of h3 with ⟨h4, h5⟩ | ⟨_, h5⟩
      case inr => cases h5
      cases i with
      | zero =>
        have e : some (MV.own o) = some v := e
        cases e
        exact ⟨o, t, t', rfl, eo, q, h4⟩
      | succ i =>
        have := rowsB_of h5 (i := i) (v := v) (by simpa using e)
        rw [show j + (i + 1) = Nat.succ j + i by omega]
        exact this
open Classical in
/-- what was made stands from now on -/
noncomputable def grown (μ : Wd) (h h' : Heap) : Wd := ⟨μ.ρ, μ.σ, fun b => match μ.H b with | some o => some o | none => if h.get? b = none then h'.get? b else none⟩
theorem grown_old {μ : Wd} {h h' : Heap} {b : Nat} {o : Obj} (e : μ.H b = some o) : (grown μ h h').H b = some o := by unfold grown; simp [e]
theorem grown_new {μ : Wd} {h h' : Heap} {b : Nat} (e : μ.H b = none) (n : h.get? b = none) : (grown μ h h').H b = h'.get? b := by unfold grown; simp [e, n]
theorem grown_no {μ : Wd} {h h' : Heap} {b : Nat} (e : μ.H b = none) (n : h.get? b ≠ none) : (grown μ h h').H b = none := by unfold grown; simp [e, n]
theorem se_code {e : Expr} {m : Mine.X} (hE : SE g d fi e m) (hm : m [] ⟨.nil, 0, 0, []⟩ (isCode g.code) = true) : SE g d fi e xCode := by
  intro A env μ loc st s k R En I L h
  have h : k .code st = true := h
  refine wpAny_mono (hE A env (small env s.heap []) [] ⟨.nil, 0, 0, []⟩ s _ R En (small_hp I L rfl) (small_lo L fun m hn hv i x hi ne => absurd rfl ne) hm) (fun v s' h1 => ?_) fun _ _ z => z
  obtain ⟨μ1, mv, st1, S1, m1, I1, V1, h1⟩ := h1
  have kk : ∀ b o, s.heap.get? b = some o → s'.heap.get? b = some o := fun b o e => small_keep S1 b o e id
  have hn : ∀ b, s.heap.get? b = none → μ.H b = none := fun b e => by
    cases q : μ.H b with
    | none => rfl
    | some o => have := I.keep b o q; rw [e] at this; cases this
  have E : Ext μ (grown μ s.heap s'.heap) := ⟨⟨[], by simp [grown]⟩, ⟨[], by simp [grown]⟩, fun b o e => grown_old e⟩
  have I2 : Hp g (grown μ s.heap s'.heap) st s'.heap := by
    refine ⟨fun b o e => grown_old (I.base b o e), fun b o e => ?_, I.nρ, I.nσ, fun i mo e => ?_, fun a ha => ?_, fun a ha => ?_, I.apart, I.facts⟩
    · cases q : μ.H b with
      | some o' => rw [grown_old q] at e; cases e; exact kk _ _ (I.keep _ _ q)
      | none =>
        by_cases z : s.heap.get? b = none
        · rw [grown_new q z] at e; exact e
        · rw [grown_no q z] at e; cases e
    · obtain ⟨a, ea, q⟩ := I.obj i mo e
      exact ⟨a, ea, q.ext E fun b o _ z => kk b o z⟩
    · obtain ⟨⟨o1, e1⟩, o2, e2⟩ := I.low a ha
      exact ⟨⟨o1, kk _ _ e1⟩, o2, kk _ _ e2⟩
    · obtain ⟨⟨o1, e1⟩, o2, e2⟩ := I.low a ha
      obtain ⟨f1, f2⟩ := I.free a ha
      exact ⟨grown_no f1 (by rw [e1]; simp), grown_no f2 (by rw [e2]; simp)⟩
  have gh : ∀ b o, (grown μ s.heap s'.heap).H b = some o → μ.H b = some o ∨ s.heap.get? b = none := fun b o e => by
    cases q : μ.H b with
    | some o' => rw [grown_old q] at e; exact .inl e
    | none =>
      by_cases z : s.heap.get? b = none
      · exact .inr z
      · rw [grown_no q z] at e; cases e
  have S2 : Step none' μ (grown μ s.heap s'.heap) s.heap s'.heap := ⟨⟨[], by simp [grown]⟩, ⟨[], by simp [grown]⟩, fun b o e => grown_old e, gh, fun b o z _ _ => kk b o z, fun b o z => ⟨o, kk b o z⟩⟩
  have new : ∀ a ∈ μ1.ρ, s.heap.get? a.1 = none := fun a ha => by
    obtain ⟨r, e, hr⟩ := S1.ρ
    rw [e] at ha
    exact (hr a (by simpa [small] using ha)).1
  obtain ⟨i, l, rfl, eo, h2⟩ := onLst_of h1
  rcases bool_of h2 with ⟨h3, h4⟩ | ⟨_, h4⟩
  case inr => cases h4
  rcases bool_of h4 with ⟨h5, h6⟩ | ⟨_, h6⟩
  case inr => cases h6
  obtain ⟨a, vs, n, f, rfl, hT, W, sz, le⟩ := I1.lst V1 eo
  have ea := new a (List.mem_of_getElem? f)
  refine ⟨_, .code, st, S2, m1, I2, ⟨a.1, rfl, _, n, vs, (grown_new (hn _ ea) ea).trans hT, rfl, rfl, by omega, fun j row hj => ?_⟩, h⟩
  have hj' := Nat.le_of_ble_eq_true (allI_of h6 hj)
  have eg : l[j]? = some (l[j]'hj') := List.getElem?_eq_getElem hj'
  obtain ⟨o, t, t', e1, e2, e3, e4⟩ := rowsB_of h5 eg
  rw [Nat.zero_add, hj] at e3; cases e3
  obtain ⟨w, hw, Vw⟩ := W.get eg
  rw [e1] at Vw
  obtain ⟨c, ws, fc, rfl, hT2, W2, sz2, le2⟩ := I1.tup Vw e2
  have ec := new c (List.mem_of_getElem? fc)
  obtain ⟨oc, q1, q2, n2, q3⟩ := hT2
  exact ⟨c.1, hw, oc, n2, ws, (grown_new (hn _ ec) ec).trans q1, q2, q3, litsB_of W2 e4⟩
/-! the cut in the law -/
noncomputable def cutLoc (ic iz iF ir : Nat) (z f : Int) (r : List Nat) : Mine.L := lset (lset (lset (lset [] ic (.scr 4)) iz (.int z)) iF (.int f)) ir (.str r)
noncomputable def tailB (m : Mine.S) (ic iz iF ir : Nat) (p : Nat × Nat × List Nat) : Bool := m (cutLoc ic iz iF ir p.1 p.2.1 p.2.2) ⟨.nil, 0, 4, []⟩ (fun _ _ => false) (fun v _ => ifBool v fun c => c) (fun _ _ => false) (fun _ _ => false)
theorem inRows_of {z f : Int} {r : List Nat} : ∀ {t : List (Nat × Nat × List Nat)}, inRows z f r t = true → ∃ p ∈ t, z = p.1 ∧ f = p.2.1 ∧ r = p.2.2
  | [], h => by cases h
  | p :: t, h => by
    have h : (Bool.rec (inRows z f r t) (Bool.rec (inRows z f r t) (Bool.rec (inRows z f r t) true (strB p.2.2 r)) (eqB f (.ofNat p.2.1))) (eqB z (.ofNat p.1)) : Bool) = true := h
    have ih := @inRows_of z f r t
    rcases bool_of h with ⟨h0, h1⟩ | ⟨_, h1⟩
    · rcases bool_of h1 with ⟨h2, h3⟩ | ⟨_, h3⟩
      · rcases bool_of h3 with ⟨h4, h5⟩ | ⟨_, h5⟩
        · rw [eqB_eq] at h0 h2
          exact ⟨p, by simp, by simpa using h0, by simpa using h2, ((strB_iff _ _).mp h4).symm⟩
        · obtain ⟨q, hq, r⟩ := ih h5; exact ⟨q, List.mem_cons_of_mem _ hq, r⟩
      · obtain ⟨q, hq, r⟩ := ih h3; exact ⟨q, List.mem_cons_of_mem _ hq, r⟩
    · obtain ⟨q, hq, r⟩ := ih h1; exact ⟨q, List.mem_cons_of_mem _ hq, r⟩
theorem nums_of {μ : Wd} : ∀ {vs : List Value} {l : Mine.L} {n : Nat}, All2 (VR g μ) vs l → nums l n = true → n + l.length = 4 ∧ ∃ xs : List Int, xs.length = l.length ∧ ∀ i, i < l.length → ∃ x t, vs[i]? = some (.int x t) ∧ xs[i]? = some x
  | _, [], n, .nil, h => by
    have : n = 4 := Nat.eq_of_beq_eq_true h
    exact ⟨by simpa using this, [], rfl, fun i hi => by simp at hi⟩
  | v :: vs, a :: l, n, .cons V W, h => by
    have h : (Bool.rec false (nums l (Nat.succ n)) (isNum a) : Bool) = true := h
    rcases bool_of h with ⟨h0, h1⟩ | ⟨_, h1⟩
    case inr => cases h1
    obtain ⟨e, xs, el, hx⟩ := nums_of W h1
    obtain ⟨x, t, rfl⟩ : ∃ x t, v = .int x t := by
      cases a with
      | int i => obtain ⟨t, e⟩ := V; exact ⟨_, t, e⟩
      | sym i => obtain ⟨x, t, _, e⟩ := V; exact ⟨x, t, e⟩
      | _ => cases h0
    refine ⟨by simp at e ⊢; omega, x :: xs, by simp [el], fun i hi => ?_⟩
    cases i with
    | zero => exact ⟨x, t, rfl, rfl⟩
    | succ i => obtain ⟨y, u, e1, e2⟩ := hx i (by simpa using hi); exact ⟨y, u, by simpa using e1, by simpa using e2⟩
theorem cut_get {ic iz iF ir i : Nat} {z f : Int} {r : List Nat} (h1 : ic ≠ iz) (h2 : ic ≠ iF) (h3 : ic ≠ ir) (h4 : iz ≠ iF) (h5 : iz ≠ ir) (h6 : iF ≠ ir) (ne : lget (cutLoc ic iz iF ir z f r) i ≠ .unb) :
    (i = ic ∧ lget (cutLoc ic iz iF ir z f r) i = .scr 4) ∨ (i = iz ∧ lget (cutLoc ic iz iF ir z f r) i = .int z) ∨ (i = iF ∧ lget (cutLoc ic iz iF ir z f r) i = .int f) ∨ (i = ir ∧ lget (cutLoc ic iz iF ir z f r) i = .str r) := by
  unfold cutLoc at ne ⊢
  simp only [lget_lset] at ne ⊢
  by_cases e4 : i = ir
  · subst e4; simp
  · by_cases e3 : i = iF
    · subst e3; simp [h6]
    · by_cases e2 : i = iz
      · subst e2; simp [h4, h5]
      · by_cases e1 : i = ic
        · subst e1; simp [h1, h2, h3]
        · simp only [e1, e2, e3, e4, if_false] at ne
          exact absurd rfl ne
theorem sl_cut {rest : List Stmt} {m : Mine.S} {ic iz iF ir : Nat} {t : List (Nat × Nat × List Nat)} (hr : SL g d fi rest m) (h1 : ic ≠ iz) (h2 : ic ≠ iF) (h3 : ic ≠ ir) (h4 : iz ≠ iF) (h5 : iz ≠ ir) (h6 : iF ≠ ir) (ht : ∀ p ∈ t, tailB m ic iz iF ir p = true) : SL g d fi rest (sCut ic iz iF ir t) := by
  intro A env μ loc st s kn kr kb kc R En I L h
  obtain ⟨i, l, ei, eo, h7⟩ := onLst_of h
  rcases bool_of h7 with ⟨hn, h8⟩ | ⟨_, h8⟩
  case inr => cases h8
  obtain ⟨z, ez, h9⟩ := ifInt_of h8
  obtain ⟨f, ef, h10⟩ := ifInt_of h9
  obtain ⟨r, er, h11⟩ := ifStr_of h10
  rcases bool_of h11 with ⟨hr', h12⟩ | ⟨_, h12⟩
  case inr => cases h12
  obtain ⟨p, hp, rfl, rfl, rfl⟩ := inRows_of hr'
  have tl := ht p hp
  obtain ⟨m0, hm0, hv⟩ := id L.vars
  have nt : nums l 0 = true := hn
  obtain ⟨a, fa, -⟩ := I.obj _ _ eo
  obtain ⟨a', vs, nn, fa', -, hT, W, sz, le⟩ := I.lst (v := .ref a.1) ⟨a, fa, rfl⟩ eo
  rw [fa] at fa'; cases fa'
  obtain ⟨len, xs, xl, hx⟩ := nums_of W nt
  have noA : ¬ LEx env a.1 := fun q => (LEx.none0 L q).2 ⟨a, List.mem_of_getElem? fa, .inl rfl⟩
  have hlo : Lo g (small env s.heap xs) fi env (cutLoc ic iz iF ir p.1 p.2.1 p.2.2) s.heap := by
    refine small_lo L fun m hm hv i x hi ne => ?_
    rcases cut_get h1 h2 h3 h4 h5 h6 ne with ⟨rfl, e⟩ | ⟨rfl, e⟩ | ⟨rfl, e⟩ | ⟨rfl, e⟩
    · obtain ⟨v, V, q⟩ := hv i x hi (by rw [ei]; simp)
      rw [ei] at V
      obtain ⟨b, fb, rfl⟩ := V
      rw [fa] at fb; cases fb
      refine ⟨_, ?_, q⟩
      rw [e]
      refine ⟨a.1, rfl, _, nn, vs, (small_h noA).trans hT, rfl, rfl, by omega, ?_, fun i hi => ?_⟩
      · rw [List.length_take, Array.length_toList]; omega
      · obtain ⟨x, t, e1, e2⟩ := hx i (by omega)
        exact ⟨x, t, e1, e2⟩
    · obtain ⟨v, V, q⟩ := hv i x hi (by rw [ez]; simp)
      rw [ez] at V; exact ⟨v, by rw [e]; exact V, q⟩
    · obtain ⟨v, V, q⟩ := hv i x hi (by rw [ef]; simp)
      rw [ef] at V; exact ⟨v, by rw [e]; exact V, q⟩
    · obtain ⟨v, V, q⟩ := hv i x hi (by rw [er]; simp)
      rw [er] at V; exact ⟨v, by rw [e]; exact V, q⟩
  refine wpAny_mono (hr A env (small env s.heap xs) _ _ s _ _ _ _ R En (small_hp I L (n := 4) (by omega)) hlo tl) (fun fl s' h' => ?_) fun _ _ z => z
  obtain ⟨μ', st', S', m', I', h'⟩ := h'
  have kk : ∀ b o, s.heap.get? b = some o → ¬ LEx env b → s'.heap.get? b = some o := fun b o e n => small_keep S' b o e n
  cases fl with
  | ret v =>
    obtain ⟨mv, V, h'⟩ := h'
    obtain ⟨c, rfl, h'⟩ := ifBool_of h'
    obtain rfl : c = true := h'
    obtain rfl : v = .bool true := V
    refine ⟨μ, st, ⟨⟨[], by simp⟩, ⟨[], by simp⟩, fun _ _ z => z, fun _ _ z => .inl z, fun b o e _ n => kk b o e n, S'.stay⟩, m', I.other fun b o e q => kk b o e fun z => ?_, .bool true, rfl, h12⟩
    have := LEx.none0 L z
    exact q.elim this.2 fun w => w this.1
  | next => obtain ⟨loc', _, h'⟩ := h'; cases h'
  | brk => obtain ⟨loc', _, h'⟩ := h'; cases h'
  | cont => obtain ⟨loc', _, h'⟩ := h'; cases h'
end
end Mine

set_option Elab.async false
set_option maxRecDepth 100000
set_option linter.unusedVariables false
open PySem PySem.W PySem.Calls PyProof.Rows
namespace Mine
/-! ## the head: the heap that the top leaves, and the top's run in pieces -/
abbrev pw : Program := PySem.Challenge.pw_xw0310_01
noncomputable def skS : List Stmt → Nat → Stmt
  | [], _ => .Pass default
  | s :: _, 0 => s
  | _ :: l, n + 1 => skS l n
noncomputable def stA (i : Nat) : Stmt := skS pw.main.body i
noncomputable def stB (i j : Nat) : Stmt := match stA i with
  | .ClassDef _ _ _ b .. => skS b j
  | s => s
noncomputable def fnR (gl : Nat) (q : Str) (s : Stmt) (cl : List (Str × Addr)) (dv kv doc pm : Value) (an : Option Addr) (cd ct : Value) (bt : Addr) : FuncData := match s with
  | .FunctionDef n a b _ _ _ sc _ _ _ => ⟨n, q, a, .stmts b, sc, gl, cl, dv, kv, doc, pm, an, cd, ct, bt⟩
  | _ => ⟨q, q, { posonlyargs := [], args := [], vararg := none, kwonlyargs := [], kw_defaults := [], kwarg := none, defaults := [] }, .stmts [], { kind := .function, names := [], isGenerator := false, isCoroutine := false }, gl, cl, dv, kv, doc, pm, an, cd, ct, bt⟩
noncomputable def de (P : Params) (x : Str) (t : Nat) (v : Value) : DictEntry := ⟨PyData.keyHash P x, .str x t, v⟩
noncomputable def takeL {α : Type} : Nat → List α → List α
  | 0, _ => []
  | _ + 1, [] => []
  | n + 1, x :: l => x :: takeL n l
noncomputable def insL : Nat → List Obj → BT → BT
  | _, [], t => t
  | n, o :: l, t => insL (n + 1) l (t.ins n o)
noncomputable def mainE (P : Params) : List DictEntry := [de P "__doc__" 166 .none, de P "__package__" 167 .none, de P "__loader__" 168 (.builtin "__main__.__loader__#opaque"), de P "__spec__" 169 .none, de P "__annotations__" 170 (.ref 6), de P "__builtins__" 171 (.ref 4), de P "__file__" 173 (.str "/claim/cut.py" 172), de P "__cached__" 174 .none, de P "ONE" 190 (.str "one" 189), de P "WAYS" 192 (.str "ways" 191), de P "SPLIT" 194 (.str "split" 193), de P "JUMP" 196 (.str "jump" 195), de P "MARK" 198 (.str "mark" 197), de P "NAME" 200 (.str "name" 199), de P "SET" 202 (.str "set" 201), de P "GAIN" 204 (.str "gain" 203), de P "PLACE" 206 (.str "place" 205), de P "ASK" 208 (.str "ask" 207), de P "FENCE" 210 (.str "fence" 209), de P "FAIL" 212 (.str "fail" 211), de P "ABORT" 214 (.str "abort" 213), de P "SUCCEED" 216 (.str "succeed" 215), de P "DONE" 218 (.str "done" 217), de P "PUT" 220 (.str "put" 219), de P "EMIT" 222 (.str "emit" 221), de P "OPEN" 224 (.str "open" 223), de P "SHUT" 226 (.str "shut" 225), de P "MEET" 228 (.str "meet" 227), de P "SINGLE" 240 (.ref 15), de P "ALONE" 245 (.ref 16), de P "row_of" 256 (.ref 23), de P "is_plain_text" 263 (.ref 30), de P "with_texts_joined" 272 (.ref 37), de P "PatternCode" 356 (.ref 94), de P "straightened" 366 (.ref 105), de P "compile_pattern" 374 (.ref 112), de P "SnobolError" 410 (.ref 132), de P "Failure" 430 (.ref 145), de P "Pattern" 459 (.ref 166), de P "Delayed" 488 (.ref 187), de P "NameRef" 521 (.ref 208), de P "is_fail" 528 (.ref 219), de P "fits" 536 (.ref 226), de P "whole_of_text" 547 (.ref 233), de P "text_of_whole" 556 (.ref 240), de P "to_whole" 564 (.ref 247), de P "to_text" 571 (.ref 254), de P "need_text" 579 (.ref 261), de P "COUNTED" 587 (.ref 262), de P "SIGNED" 592 (.ref 263), de P "WIDTH_OF_COUNT" 594 (.int 64 593), de P "plain_count" 604 (.ref 271), de P "plain_signs" 613 (.ref 278), de P "pattern_of" 621 (.ref 285), de P "is_delayed" 628 (.ref 292), de P "settled" 637 (.ref 299), de P "OPENING" 641 (.str "(" 640), de P "CLOSING" 643 (.str ")" 642), de P "chars_end" 653 (.ref 306), de P "len_end" 662 (.ref 313), de P "pos_end" 670 (.ref 320), de P "rpos_end" 679 (.ref 327), de P "tab_end" 688 (.ref 334), de P "rtab_end" 698 (.ref 341), de P "rem_end" 705 (.ref 348), de P "any_at" 714 (.ref 355), de P "notany_at" 723 (.ref 362), de P "run_end" 733 (.ref 369), de P "span_end" 743 (.ref 376), de P "break_end" 753 (.ref 383), de P "arb_ends" 761 (.ref 390), de P "bal_end" 770 (.ref 397), de P "bal_ends" 780 (.ref 404), de P "one_end" 790 (.ref 411), de P "plain_end" 799 (.ref 418), de P "ends_of" 810 (.ref 425), de P "MET" 814 (.int 0 813), de P "FAILED" 816 (.int 1 815), de P "OVER" 818 (.int 2 817), de P "Way" 865 (.ref 449), de P "Match" 980 (.ref 526), de P "named_rows" 989 (.ref 537), de P "match_orders" 1002 (.ref 544), de P "PlainHost" 1064 (.ref 582), de P "_law_row" 1075 (.ref 593), de P "_law_any" 1084 (.ref 600), de P "_law_pattern" 1096 (.ref 607), de P "_law_met" 1104 (.ref 614), de P "_law_jumps" 1117 (.ref 621), de P "law" 1123 (.ref 626)]
noncomputable def o3' (P : Params) (v : Value) (k n : Nat) : Obj := ⟨.type "dict", none, .dict (de P "__name__" 165 v :: takeL k (mainE P)).toArray n, #[]⟩
noncomputable def o3 (P : Params) : Obj := (o3' P (.str "law_xw0310_01" 1065) 90 91)
noncomputable def o15 (P : Params) : Obj := ⟨.type "tuple", none, (.seq #[.str "chars" 229, .str "len" 230, .str "pos" 231, .str "rpos" 232, .str "tab" 233, .str "rtab" 234, .str "any" 235, .str "notany" 236, .str "span" 237, .str "break" 238, .str "rem" 239] 0), #[]⟩
noncomputable def o16 (P : Params) : Obj := ⟨.type "tuple", none, (.seq #[.str "fence" 241, .str "fail" 242, .str "abort" 243, .str "succeed" 244] 0), #[]⟩
noncomputable def o22 (P : Params) : Obj := ⟨.type "code", none, (.fields #[.str "row_of" 246, .str "row_of" 247, .str "/claim/cut.py" 248, .int 24 0, .int 2 0, .int 0 0, .int 0 0, .int 3 0, .ref 17, .bool true, .int 181 0, .ref 18, .none, .ref 19, .ref 20, .ref 21, .int 254 0, .int 24 0, .str "/claim/cut.py" 255]), #[]⟩
noncomputable def o23 (P : Params) : Obj := ⟨.type "function", none, (.func (fnR 3 "row_of" (stA 23) [] .none .none .none (.str "snobol.compile_pattern" 187) none (.ref 22) .none 0)), #[]⟩
noncomputable def o29 (P : Params) : Obj := ⟨.type "code", none, (.fields #[.str "is_plain_text" 257, .str "is_plain_text" 258, .str "/claim/cut.py" 259, .int 33 0, .int 1 0, .int 0 0, .int 0 0, .int 3 0, .ref 24, .bool true, .int 181 0, .ref 25, .none, .ref 26, .ref 27, .ref 28, .int 261 0, .int 33 0, .str "/claim/cut.py" 262]), #[]⟩
noncomputable def o30 (P : Params) : Obj := ⟨.type "function", none, (.func (fnR 3 "is_plain_text" (stA 24) [] .none .none .none (.str "snobol.compile_pattern" 187) none (.ref 29) .none 0)), #[]⟩
noncomputable def o36 (P : Params) : Obj := ⟨.type "code", none, (.fields #[.str "with_texts_joined" 264, .str "with_texts_joined" 265, .str "/claim/cut.py" 266, .int 35 0, .int 1 0, .int 0 0, .int 0 0, .int 3 0, .ref 31, .bool true, .int 181 0, .ref 32, .none, .ref 33, .ref 34, .ref 35, .int 270 0, .int 35 0, .str "/claim/cut.py" 271]), #[]⟩
noncomputable def o37 (P : Params) : Obj := ⟨.type "function", none, (.func (fnR 3 "with_texts_joined" (stA 25) [] .none .none .none (.str "snobol.compile_pattern" 187) none (.ref 36) .none 0)), #[]⟩
noncomputable def o50 (P : Params) : Obj := ⟨.type "code", none, (.fields #[.str "__init__" 285, .str "PatternCode.__init__" 286, .str "/claim/cut.py" 287, .int 47 0, .int 1 0, .int 0 0, .int 0 0, .int 3 0, .ref 45, .bool true, .int 181 0, .ref 46, .none, .ref 47, .ref 48, .ref 49, .int 289 0, .int 47 0, .str "/claim/cut.py" 290]), #[]⟩
noncomputable def o51 (P : Params) : Obj := ⟨.type "function", none, (.func (fnR 3 "PatternCode.__init__" (stB 26 0) [] .none .none .none (.str "snobol.compile_pattern" 187) none (.ref 50) .none 0)), #[]⟩
noncomputable def o57 (P : Params) : Obj := ⟨.type "code", none, (.fields #[.str "emit" 292, .str "PatternCode.emit" 293, .str "/claim/cut.py" 294, .int 50 0, .int 2 0, .int 0 0, .int 0 0, .int 3 0, .ref 52, .bool true, .int 181 0, .ref 53, .none, .ref 54, .ref 55, .ref 56, .int 297 0, .int 50 0, .str "/claim/cut.py" 298]), #[]⟩
noncomputable def o58 (P : Params) : Obj := ⟨.type "function", none, (.func (fnR 3 "PatternCode.emit" (stB 26 1) [] .none .none .none (.str "snobol.compile_pattern" 187) none (.ref 57) .none 0)), #[]⟩
noncomputable def o64 (P : Params) : Obj := ⟨.type "code", none, (.fields #[.str "put" 300, .str "PatternCode.put" 301, .str "/claim/cut.py" 302, .int 54 0, .int 2 0, .int 0 0, .int 0 0, .int 3 0, .ref 59, .bool true, .int 181 0, .ref 60, .none, .ref 61, .ref 62, .ref 63, .int 308 0, .int 54 0, .str "/claim/cut.py" 309]), #[]⟩
noncomputable def o65 (P : Params) : Obj := ⟨.type "function", none, (.func (fnR 3 "PatternCode.put" (stB 26 2) [] .none .none .none (.str "snobol.compile_pattern" 187) none (.ref 64) .none 0)), #[]⟩
noncomputable def o69 (P : Params) : Obj := ⟨.type "code", none, (.fields #[.str "begun" 311, .str "PatternCode.begun" 312, .str "/claim/cut.py" 313, .int 65 0, .int 2 0, .int 0 0, .int 0 0, .int 3 0, .ref 66, .bool true, .int 181 0, .ref 67, .none, .none, .none, .ref 68, .int 314 0, .int 65 0, .str "/claim/cut.py" 315]), #[]⟩
noncomputable def o70 (P : Params) : Obj := ⟨.type "function", none, (.func (fnR 3 "PatternCode.begun" (stB 26 3) [] .none .none .none (.str "snobol.compile_pattern" 187) none (.ref 69) .none 0)), #[]⟩
noncomputable def o76 (P : Params) : Obj := ⟨.type "code", none, (.fields #[.str "choice" 317, .str "PatternCode.choice" 318, .str "/claim/cut.py" 319, .int 84 0, .int 2 0, .int 0 0, .int 0 0, .int 3 0, .ref 71, .bool true, .int 181 0, .ref 72, .none, .ref 73, .ref 74, .ref 75, .int 325 0, .int 84 0, .str "/claim/cut.py" 326]), #[]⟩
noncomputable def o77 (P : Params) : Obj := ⟨.type "function", none, (.func (fnR 3 "PatternCode.choice" (stB 26 4) [] .none .none .none (.str "snobol.compile_pattern" 187) none (.ref 76) .none 0)), #[]⟩
noncomputable def o83 (P : Params) : Obj := ⟨.type "code", none, (.fields #[.str "repeat" 328, .str "PatternCode.repeat" 329, .str "/claim/cut.py" 330, .int 90 0, .int 2 0, .int 0 0, .int 0 0, .int 3 0, .ref 78, .bool true, .int 181 0, .ref 79, .none, .ref 80, .ref 81, .ref 82, .int 335 0, .int 90 0, .str "/claim/cut.py" 336]), #[]⟩
noncomputable def o84 (P : Params) : Obj := ⟨.type "function", none, (.func (fnR 3 "PatternCode.repeat" (stB 26 5) [] .none .none .none (.str "snobol.compile_pattern" 187) none (.ref 83) .none 0)), #[]⟩
noncomputable def o90 (P : Params) : Obj := ⟨.type "code", none, (.fields #[.str "bound" 338, .str "PatternCode.bound" 339, .str "/claim/cut.py" 340, .int 97 0, .int 3 0, .int 0 0, .int 0 0, .int 3 0, .ref 85, .bool true, .int 181 0, .ref 86, .none, .ref 87, .ref 88, .ref 89, .int 345 0, .int 97 0, .str "/claim/cut.py" 346]), #[]⟩
noncomputable def o91 (P : Params) : Obj := ⟨.type "function", none, (.func (fnR 3 "PatternCode.bound" (stB 26 6) [] .none .none .none (.str "snobol.compile_pattern" 187) none (.ref 90) .none 0)), #[]⟩
noncomputable def o93 (P : Params) : Obj := ⟨.type "dict", none, (.dict #[de P "__module__" 280 (.str "snobol.compile_pattern" 187), de P "__firstlineno__" 284 (.int 45 283), de P "__init__" 291 (.ref 51), de P "emit" 299 (.ref 58), de P "put" 310 (.ref 65), de P "begun" 316 (.ref 70), de P "choice" 327 (.ref 77), de P "repeat" 337 (.ref 84), de P "bound" 347 (.ref 91), de P "__static_attributes__" 349 (.ref 92), de P "__dict__" 351 (.ref 95), de P "__weakref__" 353 (.ref 96), de P "__doc__" 354 .none] 4), #[]⟩
noncomputable def o94 (P : Params) : Obj := ⟨.type "type", none, (.cls ⟨"PatternCode", [.type "object"], [.ref 94, .type "object"], 93, "PatternCode", true, [], [], false, none, false⟩), #[none, none, some (.str "PatternCode" 273), some (.str "PatternCode" 281), some (.builtin "object.__new__"), some (.bool true)]⟩
noncomputable def o104 (P : Params) : Obj := ⟨.type "code", none, (.fields #[.str "straightened" 357, .str "straightened" 358, .str "/claim/cut.py" 359, .int 106 0, .int 1 0, .int 0 0, .int 0 0, .int 3 0, .ref 99, .bool true, .int 181 0, .ref 100, .none, .ref 101, .ref 102, .ref 103, .int 364 0, .int 106 0, .str "/claim/cut.py" 365]), #[]⟩
noncomputable def o105 (P : Params) : Obj := ⟨.type "function", none, (.func (fnR 3 "straightened" (stA 27) [] .none .none .none (.str "snobol.compile_pattern" 187) none (.ref 104) .none 0)), #[]⟩
noncomputable def o111 (P : Params) : Obj := ⟨.type "code", none, (.fields #[.str "compile_pattern" 367, .str "compile_pattern" 368, .str "/claim/cut.py" 369, .int 116 0, .int 1 0, .int 0 0, .int 0 0, .int 3 0, .ref 106, .bool true, .int 181 0, .ref 107, .none, .ref 108, .ref 109, .ref 110, .int 372 0, .int 116 0, .str "/claim/cut.py" 373]), #[]⟩
noncomputable def o112 (P : Params) : Obj := ⟨.type "function", none, (.func (fnR 3 "compile_pattern" (stA 28) [] .none .none .none (.str "snobol.compile_pattern" 187) none (.ref 111) .none 0)), #[]⟩
noncomputable def o121 (P : Params) : Obj := ⟨.type "tuple", none, (.seq #[.str "" 389] 0), #[]⟩
noncomputable def o128 (P : Params) : Obj := ⟨.type "code", none, (.fields #[.str "__init__" 390, .str "SnobolError.__init__" 391, .str "/claim/cut.py" 392, .int 124 0, .int 3 0, .int 0 0, .int 0 0, .int 3 0, .ref 123, .bool true, .int 181 0, .ref 124, .none, .ref 125, .ref 126, .ref 127, .int 397 0, .int 124 0, .str "/claim/cut.py" 398]), #[]⟩
noncomputable def o129 (P : Params) : Obj := ⟨.type "function", none, (.func (fnR 3 "SnobolError.__init__" (stB 30 0) [("__class__", 116)] (.ref 121) .none .none (.str "snobol.values" 375) none (.ref 128) (.ref 122) 0)), #[]⟩
noncomputable def o131 (P : Params) : Obj := ⟨.type "dict", none, (.dict #[de P "__module__" 384 (.str "snobol.values" 375), de P "__firstlineno__" 388 (.int 122 387), de P "__init__" 399 (.ref 129), de P "__static_attributes__" 402 (.ref 130), de P "__weakref__" 405 (.ref 133), de P "__doc__" 406 .none] 4), #[]⟩
noncomputable def o132 (P : Params) : Obj := ⟨.type "type", none, (.cls ⟨"SnobolError", [.type "Exception"], [.ref 132, .type "Exception", .type "BaseException", .type "object"], 131, "SnobolError", true, [], [], false, none, false⟩), #[some (.ref 113), none, some (.str "SnobolError" 377), some (.str "SnobolError" 385), some (.builtin "Exception.__new__"), some (.bool true)]⟩
noncomputable def o144 (P : Params) : Obj := ⟨.type "dict", none, (.dict #[de P "__module__" 418 (.str "snobol.values" 375), de P "__firstlineno__" 422 (.int 128 421), de P "__static_attributes__" 423 (.ref 143), de P "__dict__" 425 (.ref 146), de P "__weakref__" 427 (.ref 147), de P "__doc__" 428 .none] 4), #[]⟩
noncomputable def o145 (P : Params) : Obj := ⟨.type "type", none, (.cls ⟨"Failure", [.type "object"], [.ref 145, .type "object"], 144, "Failure", true, [], [], false, none, false⟩), #[none, none, some (.str "Failure" 411), some (.str "Failure" 419), some (.builtin "object.__new__"), some (.bool true)]⟩
noncomputable def o162 (P : Params) : Obj := ⟨.type "code", none, (.fields #[.str "__init__" 443, .str "Pattern.__init__" 444, .str "/claim/cut.py" 445, .int 132 0, .int 2 0, .int 0 0, .int 0 0, .int 3 0, .ref 157, .bool true, .int 181 0, .ref 158, .none, .ref 159, .ref 160, .ref 161, .int 448 0, .int 132 0, .str "/claim/cut.py" 449]), #[]⟩
noncomputable def o163 (P : Params) : Obj := ⟨.type "function", none, (.func (fnR 3 "Pattern.__init__" (stB 32 0) [] .none .none .none (.str "snobol.values" 375) none (.ref 162) .none 0)), #[]⟩
noncomputable def o165 (P : Params) : Obj := ⟨.type "dict", none, (.dict #[de P "__module__" 438 (.str "snobol.values" 375), de P "__firstlineno__" 442 (.int 130 441), de P "__init__" 450 (.ref 163), de P "__static_attributes__" 452 (.ref 164), de P "__dict__" 454 (.ref 167), de P "__weakref__" 456 (.ref 168), de P "__doc__" 457 .none] 4), #[]⟩
noncomputable def o166 (P : Params) : Obj := ⟨.type "type", none, (.cls ⟨"Pattern", [.type "object"], [.ref 166, .type "object"], 165, "Pattern", true, [], [], false, none, false⟩), #[none, none, some (.str "Pattern" 431), some (.str "Pattern" 439), some (.builtin "object.__new__"), some (.bool true)]⟩
noncomputable def o183 (P : Params) : Obj := ⟨.type "code", none, (.fields #[.str "__init__" 472, .str "Delayed.__init__" 473, .str "/claim/cut.py" 474, .int 136 0, .int 2 0, .int 0 0, .int 0 0, .int 3 0, .ref 178, .bool true, .int 181 0, .ref 179, .none, .ref 180, .ref 181, .ref 182, .int 477 0, .int 136 0, .str "/claim/cut.py" 478]), #[]⟩
noncomputable def o184 (P : Params) : Obj := ⟨.type "function", none, (.func (fnR 3 "Delayed.__init__" (stB 33 0) [] .none .none .none (.str "snobol.values" 375) none (.ref 183) .none 0)), #[]⟩
noncomputable def o186 (P : Params) : Obj := ⟨.type "dict", none, (.dict #[de P "__module__" 467 (.str "snobol.values" 375), de P "__firstlineno__" 471 (.int 134 470), de P "__init__" 479 (.ref 184), de P "__static_attributes__" 481 (.ref 185), de P "__dict__" 483 (.ref 188), de P "__weakref__" 485 (.ref 189), de P "__doc__" 486 .none] 4), #[]⟩
noncomputable def o187 (P : Params) : Obj := ⟨.type "type", none, (.cls ⟨"Delayed", [.type "object"], [.ref 187, .type "object"], 186, "Delayed", true, [], [], false, none, false⟩), #[none, none, some (.str "Delayed" 460), some (.str "Delayed" 468), some (.builtin "object.__new__"), some (.bool true)]⟩
noncomputable def o204 (P : Params) : Obj := ⟨.type "code", none, (.fields #[.str "__init__" 501, .str "NameRef.__init__" 502, .str "/claim/cut.py" 503, .int 140 0, .int 4 0, .int 0 0, .int 0 0, .int 3 0, .ref 199, .bool true, .int 181 0, .ref 200, .none, .ref 201, .ref 202, .ref 203, .int 508 0, .int 140 0, .str "/claim/cut.py" 509]), #[]⟩
noncomputable def o205 (P : Params) : Obj := ⟨.type "function", none, (.func (fnR 3 "NameRef.__init__" (stB 34 0) [] .none .none .none (.str "snobol.values" 375) none (.ref 204) .none 0)), #[]⟩
noncomputable def o207 (P : Params) : Obj := ⟨.type "dict", none, (.dict #[de P "__module__" 496 (.str "snobol.values" 375), de P "__firstlineno__" 500 (.int 138 499), de P "__init__" 510 (.ref 205), de P "__static_attributes__" 514 (.ref 206), de P "__dict__" 516 (.ref 209), de P "__weakref__" 518 (.ref 210), de P "__doc__" 519 .none] 4), #[]⟩
noncomputable def o208 (P : Params) : Obj := ⟨.type "type", none, (.cls ⟨"NameRef", [.type "object"], [.ref 208, .type "object"], 207, "NameRef", true, [], [], false, none, false⟩), #[none, none, some (.str "NameRef" 489), some (.str "NameRef" 497), some (.builtin "object.__new__"), some (.bool true)]⟩
noncomputable def o218 (P : Params) : Obj := ⟨.type "code", none, (.fields #[.str "is_fail" 522, .str "is_fail" 523, .str "/claim/cut.py" 524, .int 144 0, .int 1 0, .int 0 0, .int 0 0, .int 3 0, .ref 213, .bool true, .int 181 0, .ref 214, .none, .ref 215, .ref 216, .ref 217, .int 526 0, .int 144 0, .str "/claim/cut.py" 527]), #[]⟩
noncomputable def o219 (P : Params) : Obj := ⟨.type "function", none, (.func (fnR 3 "is_fail" (stA 35) [] .none .none .none (.str "snobol.values" 375) none (.ref 218) .none 0)), #[]⟩
noncomputable def o225 (P : Params) : Obj := ⟨.type "code", none, (.fields #[.str "fits" 529, .str "fits" 530, .str "/claim/cut.py" 531, .int 146 0, .int 2 0, .int 0 0, .int 0 0, .int 3 0, .ref 220, .bool true, .int 181 0, .ref 221, .none, .ref 222, .ref 223, .ref 224, .int 534 0, .int 146 0, .str "/claim/cut.py" 535]), #[]⟩
noncomputable def o226 (P : Params) : Obj := ⟨.type "function", none, (.func (fnR 3 "fits" (stA 36) [] .none .none .none (.str "snobol.values" 375) none (.ref 225) .none 0)), #[]⟩
noncomputable def o232 (P : Params) : Obj := ⟨.type "code", none, (.fields #[.str "whole_of_text" 537, .str "whole_of_text" 538, .str "/claim/cut.py" 539, .int 148 0, .int 2 0, .int 0 0, .int 0 0, .int 3 0, .ref 227, .bool true, .int 181 0, .ref 228, .none, .ref 229, .ref 230, .ref 231, .int 545 0, .int 148 0, .str "/claim/cut.py" 546]), #[]⟩
noncomputable def o233 (P : Params) : Obj := ⟨.type "function", none, (.func (fnR 3 "whole_of_text" (stA 37) [] .none .none .none (.str "snobol.values" 375) none (.ref 232) .none 0)), #[]⟩
noncomputable def o239 (P : Params) : Obj := ⟨.type "code", none, (.fields #[.str "text_of_whole" 548, .str "text_of_whole" 549, .str "/claim/cut.py" 550, .int 161 0, .int 1 0, .int 0 0, .int 0 0, .int 3 0, .ref 234, .bool true, .int 181 0, .ref 235, .none, .ref 236, .ref 237, .ref 238, .int 554 0, .int 161 0, .str "/claim/cut.py" 555]), #[]⟩
noncomputable def o240 (P : Params) : Obj := ⟨.type "function", none, (.func (fnR 3 "text_of_whole" (stA 38) [] .none .none .none (.str "snobol.values" 375) none (.ref 239) .none 0)), #[]⟩
noncomputable def o246 (P : Params) : Obj := ⟨.type "code", none, (.fields #[.str "to_whole" 557, .str "to_whole" 558, .str "/claim/cut.py" 559, .int 167 0, .int 2 0, .int 0 0, .int 0 0, .int 3 0, .ref 241, .bool true, .int 181 0, .ref 242, .none, .ref 243, .ref 244, .ref 245, .int 562 0, .int 167 0, .str "/claim/cut.py" 563]), #[]⟩
noncomputable def o247 (P : Params) : Obj := ⟨.type "function", none, (.func (fnR 3 "to_whole" (stA 39) [] .none .none .none (.str "snobol.values" 375) none (.ref 246) .none 0)), #[]⟩
noncomputable def o253 (P : Params) : Obj := ⟨.type "code", none, (.fields #[.str "to_text" 565, .str "to_text" 566, .str "/claim/cut.py" 567, .int 171 0, .int 1 0, .int 0 0, .int 0 0, .int 3 0, .ref 248, .bool true, .int 181 0, .ref 249, .none, .ref 250, .ref 251, .ref 252, .int 569 0, .int 171 0, .str "/claim/cut.py" 570]), #[]⟩
noncomputable def o254 (P : Params) : Obj := ⟨.type "function", none, (.func (fnR 3 "to_text" (stA 40) [] .none .none .none (.str "snobol.values" 375) none (.ref 253) .none 0)), #[]⟩
noncomputable def o260 (P : Params) : Obj := ⟨.type "code", none, (.fields #[.str "need_text" 572, .str "need_text" 573, .str "/claim/cut.py" 574, .int 175 0, .int 1 0, .int 0 0, .int 0 0, .int 3 0, .ref 255, .bool true, .int 181 0, .ref 256, .none, .ref 257, .ref 258, .ref 259, .int 577 0, .int 175 0, .str "/claim/cut.py" 578]), #[]⟩
noncomputable def o261 (P : Params) : Obj := ⟨.type "function", none, (.func (fnR 3 "need_text" (stA 41) [] .none .none .none (.str "snobol.values" 375) none (.ref 260) .none 0)), #[]⟩
noncomputable def o262 (P : Params) : Obj := ⟨.type "tuple", none, (.seq #[.str "len" 582, .str "pos" 583, .str "rpos" 584, .str "tab" 585, .str "rtab" 586] 0), #[]⟩
noncomputable def o263 (P : Params) : Obj := ⟨.type "tuple", none, (.seq #[.str "any" 588, .str "notany" 589, .str "span" 590, .str "break" 591] 0), #[]⟩
noncomputable def o264 (P : Params) : Obj := ⟨.type "tuple", none, (.seq #[.int 64 593] 0), #[]⟩
noncomputable def o270 (P : Params) : Obj := ⟨.type "code", none, (.fields #[.str "plain_count" 595, .str "plain_count" 596, .str "/claim/cut.py" 597, .int 184 0, .int 3 0, .int 0 0, .int 0 0, .int 3 0, .ref 265, .bool true, .int 181 0, .ref 266, .none, .ref 267, .ref 268, .ref 269, .int 602 0, .int 184 0, .str "/claim/cut.py" 603]), #[]⟩
noncomputable def o271 (P : Params) : Obj := ⟨.type "function", none, (.func (fnR 3 "plain_count" (stA 46) [] (.ref 264) .none .none (.str "snobol.nodes" 580) none (.ref 270) .none 0)), #[]⟩
noncomputable def o277 (P : Params) : Obj := ⟨.type "code", none, (.fields #[.str "plain_signs" 605, .str "plain_signs" 606, .str "/claim/cut.py" 607, .int 191 0, .int 2 0, .int 0 0, .int 0 0, .int 3 0, .ref 272, .bool true, .int 181 0, .ref 273, .none, .ref 274, .ref 275, .ref 276, .int 611 0, .int 191 0, .str "/claim/cut.py" 612]), #[]⟩
noncomputable def o278 (P : Params) : Obj := ⟨.type "function", none, (.func (fnR 3 "plain_signs" (stA 47) [] .none .none .none (.str "snobol.nodes" 580) none (.ref 277) .none 0)), #[]⟩
noncomputable def o284 (P : Params) : Obj := ⟨.type "code", none, (.fields #[.str "pattern_of" 614, .str "pattern_of" 615, .str "/claim/cut.py" 616, .int 196 0, .int 1 0, .int 0 0, .int 0 0, .int 3 0, .ref 279, .bool true, .int 181 0, .ref 280, .none, .ref 281, .ref 282, .ref 283, .int 619 0, .int 196 0, .str "/claim/cut.py" 620]), #[]⟩
noncomputable def o285 (P : Params) : Obj := ⟨.type "function", none, (.func (fnR 3 "pattern_of" (stA 48) [] .none .none .none (.str "snobol.nodes" 580) none (.ref 284) .none 0)), #[]⟩
noncomputable def o291 (P : Params) : Obj := ⟨.type "code", none, (.fields #[.str "is_delayed" 622, .str "is_delayed" 623, .str "/claim/cut.py" 624, .int 205 0, .int 1 0, .int 0 0, .int 0 0, .int 3 0, .ref 286, .bool true, .int 181 0, .ref 287, .none, .ref 288, .ref 289, .ref 290, .int 626 0, .int 205 0, .str "/claim/cut.py" 627]), #[]⟩
noncomputable def o292 (P : Params) : Obj := ⟨.type "function", none, (.func (fnR 3 "is_delayed" (stA 49) [] .none .none .none (.str "snobol.nodes" 580) none (.ref 291) .none 0)), #[]⟩
noncomputable def o298 (P : Params) : Obj := ⟨.type "code", none, (.fields #[.str "settled" 629, .str "settled" 630, .str "/claim/cut.py" 631, .int 207 0, .int 2 0, .int 0 0, .int 0 0, .int 3 0, .ref 293, .bool true, .int 181 0, .ref 294, .none, .ref 295, .ref 296, .ref 297, .int 635 0, .int 207 0, .str "/claim/cut.py" 636]), #[]⟩
noncomputable def o299 (P : Params) : Obj := ⟨.type "function", none, (.func (fnR 3 "settled" (stA 50) [] .none .none .none (.str "snobol.nodes" 580) none (.ref 298) .none 0)), #[]⟩
noncomputable def o305 (P : Params) : Obj := ⟨.type "code", none, (.fields #[.str "chars_end" 644, .str "chars_end" 645, .str "/claim/cut.py" 646, .int 219 0, .int 3 0, .int 0 0, .int 0 0, .int 3 0, .ref 300, .bool true, .int 181 0, .ref 301, .none, .ref 302, .ref 303, .ref 304, .int 651 0, .int 219 0, .str "/claim/cut.py" 652]), #[]⟩
noncomputable def o306 (P : Params) : Obj := ⟨.type "function", none, (.func (fnR 3 "chars_end" (stA 54) [] .none .none .none (.str "snobol.primitives" 638) none (.ref 305) .none 0)), #[]⟩
noncomputable def o312 (P : Params) : Obj := ⟨.type "code", none, (.fields #[.str "len_end" 654, .str "len_end" 655, .str "/claim/cut.py" 656, .int 222 0, .int 3 0, .int 0 0, .int 0 0, .int 3 0, .ref 307, .bool true, .int 181 0, .ref 308, .none, .ref 309, .ref 310, .ref 311, .int 660 0, .int 222 0, .str "/claim/cut.py" 661]), #[]⟩
noncomputable def o313 (P : Params) : Obj := ⟨.type "function", none, (.func (fnR 3 "len_end" (stA 55) [] .none .none .none (.str "snobol.primitives" 638) none (.ref 312) .none 0)), #[]⟩
noncomputable def o319 (P : Params) : Obj := ⟨.type "code", none, (.fields #[.str "pos_end" 663, .str "pos_end" 664, .str "/claim/cut.py" 665, .int 224 0, .int 2 0, .int 0 0, .int 0 0, .int 3 0, .ref 314, .bool true, .int 181 0, .ref 315, .none, .ref 316, .ref 317, .ref 318, .int 668 0, .int 224 0, .str "/claim/cut.py" 669]), #[]⟩
noncomputable def o320 (P : Params) : Obj := ⟨.type "function", none, (.func (fnR 3 "pos_end" (stA 56) [] .none .none .none (.str "snobol.primitives" 638) none (.ref 319) .none 0)), #[]⟩
noncomputable def o326 (P : Params) : Obj := ⟨.type "code", none, (.fields #[.str "rpos_end" 671, .str "rpos_end" 672, .str "/claim/cut.py" 673, .int 226 0, .int 3 0, .int 0 0, .int 0 0, .int 3 0, .ref 321, .bool true, .int 181 0, .ref 322, .none, .ref 323, .ref 324, .ref 325, .int 677 0, .int 226 0, .str "/claim/cut.py" 678]), #[]⟩
noncomputable def o327 (P : Params) : Obj := ⟨.type "function", none, (.func (fnR 3 "rpos_end" (stA 57) [] .none .none .none (.str "snobol.primitives" 638) none (.ref 326) .none 0)), #[]⟩
noncomputable def o333 (P : Params) : Obj := ⟨.type "code", none, (.fields #[.str "tab_end" 680, .str "tab_end" 681, .str "/claim/cut.py" 682, .int 228 0, .int 3 0, .int 0 0, .int 0 0, .int 3 0, .ref 328, .bool true, .int 181 0, .ref 329, .none, .ref 330, .ref 331, .ref 332, .int 686 0, .int 228 0, .str "/claim/cut.py" 687]), #[]⟩
noncomputable def o334 (P : Params) : Obj := ⟨.type "function", none, (.func (fnR 3 "tab_end" (stA 58) [] .none .none .none (.str "snobol.primitives" 638) none (.ref 333) .none 0)), #[]⟩
noncomputable def o340 (P : Params) : Obj := ⟨.type "code", none, (.fields #[.str "rtab_end" 689, .str "rtab_end" 690, .str "/claim/cut.py" 691, .int 230 0, .int 3 0, .int 0 0, .int 0 0, .int 3 0, .ref 335, .bool true, .int 181 0, .ref 336, .none, .ref 337, .ref 338, .ref 339, .int 696 0, .int 230 0, .str "/claim/cut.py" 697]), #[]⟩
noncomputable def o341 (P : Params) : Obj := ⟨.type "function", none, (.func (fnR 3 "rtab_end" (stA 59) [] .none .none .none (.str "snobol.primitives" 638) none (.ref 340) .none 0)), #[]⟩
noncomputable def o347 (P : Params) : Obj := ⟨.type "code", none, (.fields #[.str "rem_end" 699, .str "rem_end" 700, .str "/claim/cut.py" 701, .int 233 0, .int 1 0, .int 0 0, .int 0 0, .int 3 0, .ref 342, .bool true, .int 181 0, .ref 343, .none, .ref 344, .ref 345, .ref 346, .int 703 0, .int 233 0, .str "/claim/cut.py" 704]), #[]⟩
noncomputable def o348 (P : Params) : Obj := ⟨.type "function", none, (.func (fnR 3 "rem_end" (stA 60) [] .none .none .none (.str "snobol.primitives" 638) none (.ref 347) .none 0)), #[]⟩
noncomputable def o354 (P : Params) : Obj := ⟨.type "code", none, (.fields #[.str "any_at" 706, .str "any_at" 707, .str "/claim/cut.py" 708, .int 235 0, .int 3 0, .int 0 0, .int 0 0, .int 3 0, .ref 349, .bool true, .int 181 0, .ref 350, .none, .ref 351, .ref 352, .ref 353, .int 712 0, .int 235 0, .str "/claim/cut.py" 713]), #[]⟩
noncomputable def o355 (P : Params) : Obj := ⟨.type "function", none, (.func (fnR 3 "any_at" (stA 61) [] .none .none .none (.str "snobol.primitives" 638) none (.ref 354) .none 0)), #[]⟩
noncomputable def o361 (P : Params) : Obj := ⟨.type "code", none, (.fields #[.str "notany_at" 715, .str "notany_at" 716, .str "/claim/cut.py" 717, .int 237 0, .int 3 0, .int 0 0, .int 0 0, .int 3 0, .ref 356, .bool true, .int 181 0, .ref 357, .none, .ref 358, .ref 359, .ref 360, .int 721 0, .int 237 0, .str "/claim/cut.py" 722]), #[]⟩
noncomputable def o362 (P : Params) : Obj := ⟨.type "function", none, (.func (fnR 3 "notany_at" (stA 62) [] .none .none .none (.str "snobol.primitives" 638) none (.ref 361) .none 0)), #[]⟩
noncomputable def o368 (P : Params) : Obj := ⟨.type "code", none, (.fields #[.str "run_end" 724, .str "run_end" 725, .str "/claim/cut.py" 726, .int 239 0, .int 4 0, .int 0 0, .int 0 0, .int 3 0, .ref 363, .bool true, .int 181 0, .ref 364, .none, .ref 365, .ref 366, .ref 367, .int 731 0, .int 239 0, .str "/claim/cut.py" 732]), #[]⟩
noncomputable def o369 (P : Params) : Obj := ⟨.type "function", none, (.func (fnR 3 "run_end" (stA 63) [] .none .none .none (.str "snobol.primitives" 638) none (.ref 368) .none 0)), #[]⟩
noncomputable def o375 (P : Params) : Obj := ⟨.type "code", none, (.fields #[.str "span_end" 734, .str "span_end" 735, .str "/claim/cut.py" 736, .int 243 0, .int 3 0, .int 0 0, .int 0 0, .int 3 0, .ref 370, .bool true, .int 181 0, .ref 371, .none, .ref 372, .ref 373, .ref 374, .int 741 0, .int 243 0, .str "/claim/cut.py" 742]), #[]⟩
noncomputable def o376 (P : Params) : Obj := ⟨.type "function", none, (.func (fnR 3 "span_end" (stA 64) [] .none .none .none (.str "snobol.primitives" 638) none (.ref 375) .none 0)), #[]⟩
noncomputable def o382 (P : Params) : Obj := ⟨.type "code", none, (.fields #[.str "break_end" 744, .str "break_end" 745, .str "/claim/cut.py" 746, .int 246 0, .int 3 0, .int 0 0, .int 0 0, .int 3 0, .ref 377, .bool true, .int 181 0, .ref 378, .none, .ref 379, .ref 380, .ref 381, .int 751 0, .int 246 0, .str "/claim/cut.py" 752]), #[]⟩
noncomputable def o383 (P : Params) : Obj := ⟨.type "function", none, (.func (fnR 3 "break_end" (stA 65) [] .none .none .none (.str "snobol.primitives" 638) none (.ref 382) .none 0)), #[]⟩
noncomputable def o389 (P : Params) : Obj := ⟨.type "code", none, (.fields #[.str "arb_ends" 754, .str "arb_ends" 755, .str "/claim/cut.py" 756, .int 249 0, .int 2 0, .int 0 0, .int 0 0, .int 3 0, .ref 384, .bool true, .int 181 0, .ref 385, .none, .ref 386, .ref 387, .ref 388, .int 759 0, .int 249 0, .str "/claim/cut.py" 760]), #[]⟩
noncomputable def o390 (P : Params) : Obj := ⟨.type "function", none, (.func (fnR 3 "arb_ends" (stA 66) [] .none .none .none (.str "snobol.primitives" 638) none (.ref 389) .none 0)), #[]⟩
noncomputable def o396 (P : Params) : Obj := ⟨.type "code", none, (.fields #[.str "bal_end" 762, .str "bal_end" 763, .str "/claim/cut.py" 764, .int 251 0, .int 2 0, .int 0 0, .int 0 0, .int 3 0, .ref 391, .bool true, .int 181 0, .ref 392, .none, .ref 393, .ref 394, .ref 395, .int 768 0, .int 251 0, .str "/claim/cut.py" 769]), #[]⟩
noncomputable def o397 (P : Params) : Obj := ⟨.type "function", none, (.func (fnR 3 "bal_end" (stA 67) [] .none .none .none (.str "snobol.primitives" 638) none (.ref 396) .none 0)), #[]⟩
noncomputable def o403 (P : Params) : Obj := ⟨.type "code", none, (.fields #[.str "bal_ends" 771, .str "bal_ends" 772, .str "/claim/cut.py" 773, .int 264 0, .int 2 0, .int 0 0, .int 0 0, .int 3 0, .ref 398, .bool true, .int 181 0, .ref 399, .none, .ref 400, .ref 401, .ref 402, .int 778 0, .int 264 0, .str "/claim/cut.py" 779]), #[]⟩
noncomputable def o404 (P : Params) : Obj := ⟨.type "function", none, (.func (fnR 3 "bal_ends" (stA 68) [] .none .none .none (.str "snobol.primitives" 638) none (.ref 403) .none 0)), #[]⟩
noncomputable def o410 (P : Params) : Obj := ⟨.type "code", none, (.fields #[.str "one_end" 781, .str "one_end" 782, .str "/claim/cut.py" 783, .int 270 0, .int 4 0, .int 0 0, .int 0 0, .int 3 0, .ref 405, .bool true, .int 181 0, .ref 406, .none, .ref 407, .ref 408, .ref 409, .int 788 0, .int 270 0, .str "/claim/cut.py" 789]), #[]⟩
noncomputable def o411 (P : Params) : Obj := ⟨.type "function", none, (.func (fnR 3 "one_end" (stA 69) [] .none .none .none (.str "snobol.primitives" 638) none (.ref 410) .none 0)), #[]⟩
noncomputable def o417 (P : Params) : Obj := ⟨.type "code", none, (.fields #[.str "plain_end" 791, .str "plain_end" 792, .str "/claim/cut.py" 793, .int 290 0, .int 3 0, .int 0 0, .int 0 0, .int 3 0, .ref 412, .bool true, .int 181 0, .ref 413, .none, .ref 414, .ref 415, .ref 416, .int 797 0, .int 290 0, .str "/claim/cut.py" 798]), #[]⟩
noncomputable def o418 (P : Params) : Obj := ⟨.type "function", none, (.func (fnR 3 "plain_end" (stA 70) [] .none .none .none (.str "snobol.primitives" 638) none (.ref 417) .none 0)), #[]⟩
noncomputable def o424 (P : Params) : Obj := ⟨.type "code", none, (.fields #[.str "ends_of" 800, .str "ends_of" 801, .str "/claim/cut.py" 802, .int 292 0, .int 4 0, .int 0 0, .int 0 0, .int 3 0, .ref 419, .bool true, .int 181 0, .ref 420, .none, .ref 421, .ref 422, .ref 423, .int 808 0, .int 292 0, .str "/claim/cut.py" 809]), #[]⟩
noncomputable def o425 (P : Params) : Obj := ⟨.type "function", none, (.func (fnR 3 "ends_of" (stA 71) [] .none .none .none (.str "snobol.primitives" 638) none (.ref 424) .none 0)), #[]⟩
noncomputable def o438 (P : Params) : Obj := ⟨.type "code", none, (.fields #[.str "__init__" 831, .str "Way.__init__" 832, .str "/claim/cut.py" 833, .int 307 0, .int 7 0, .int 0 0, .int 0 0, .int 3 0, .ref 433, .bool true, .int 181 0, .ref 434, .none, .ref 435, .ref 436, .ref 437, .int 841 0, .int 307 0, .str "/claim/cut.py" 842]), #[]⟩
noncomputable def o439 (P : Params) : Obj := ⟨.type "function", none, (.func (fnR 3 "Way.__init__" (stB 76 0) [] .none .none .none (.str "snobol.pattern_machine" 811) none (.ref 438) .none 0)), #[]⟩
noncomputable def o445 (P : Params) : Obj := ⟨.type "code", none, (.fields #[.str "copied" 844, .str "Way.copied" 845, .str "/claim/cut.py" 846, .int 315 0, .int 2 0, .int 0 0, .int 0 0, .int 3 0, .ref 440, .bool true, .int 181 0, .ref 441, .none, .ref 442, .ref 443, .ref 444, .int 849 0, .int 315 0, .str "/claim/cut.py" 850]), #[]⟩
noncomputable def o446 (P : Params) : Obj := ⟨.type "function", none, (.func (fnR 3 "Way.copied" (stB 76 1) [] .none .none .none (.str "snobol.pattern_machine" 811) none (.ref 445) .none 0)), #[]⟩
noncomputable def o448 (P : Params) : Obj := ⟨.type "dict", none, (.dict #[de P "__module__" 826 (.str "snobol.pattern_machine" 811), de P "__firstlineno__" 830 (.int 305 829), de P "__init__" 843 (.ref 439), de P "copied" 851 (.ref 446), de P "__static_attributes__" 858 (.ref 447), de P "__dict__" 860 (.ref 450), de P "__weakref__" 862 (.ref 451), de P "__doc__" 863 .none] 4), #[]⟩
noncomputable def o449 (P : Params) : Obj := ⟨.type "type", none, (.cls ⟨"Way", [.type "object"], [.ref 449, .type "object"], 448, "Way", true, [], [], false, none, false⟩), #[none, none, some (.str "Way" 819), some (.str "Way" 827), some (.builtin "object.__new__"), some (.bool true)]⟩
noncomputable def o466 (P : Params) : Obj := ⟨.type "code", none, (.fields #[.str "__init__" 878, .str "Match.__init__" 879, .str "/claim/cut.py" 880, .int 319 0, .int 3 0, .int 0 0, .int 0 0, .int 3 0, .ref 461, .bool true, .int 181 0, .ref 462, .none, .ref 463, .ref 464, .ref 465, .int 884 0, .int 319 0, .str "/claim/cut.py" 885]), #[]⟩
noncomputable def o467 (P : Params) : Obj := ⟨.type "function", none, (.func (fnR 3 "Match.__init__" (stB 77 0) [] .none .none .none (.str "snobol.pattern_machine" 811) none (.ref 466) .none 0)), #[]⟩
noncomputable def o473 (P : Params) : Obj := ⟨.type "code", none, (.fields #[.str "run" 887, .str "Match.run" 888, .str "/claim/cut.py" 889, .int 324 0, .int 3 0, .int 0 0, .int 0 0, .int 3 0, .ref 468, .bool true, .int 181 0, .ref 469, .none, .ref 470, .ref 471, .ref 472, .int 895 0, .int 324 0, .str "/claim/cut.py" 896]), #[]⟩
noncomputable def o474 (P : Params) : Obj := ⟨.type "function", none, (.func (fnR 3 "Match.run" (stB 77 1) [] .none .none .none (.str "snobol.pattern_machine" 811) none (.ref 473) .none 0)), #[]⟩
noncomputable def o480 (P : Params) : Obj := ⟨.type "code", none, (.fields #[.str "way_back" 898, .str "Match.way_back" 899, .str "/claim/cut.py" 900, .int 339 0, .int 1 0, .int 0 0, .int 0 0, .int 3 0, .ref 475, .bool true, .int 181 0, .ref 476, .none, .ref 477, .ref 478, .ref 479, .int 902 0, .int 339 0, .str "/claim/cut.py" 903]), #[]⟩
noncomputable def o481 (P : Params) : Obj := ⟨.type "function", none, (.func (fnR 3 "Match.way_back" (stB 77 2) [] .none .none .none (.str "snobol.pattern_machine" 811) none (.ref 480) .none 0)), #[]⟩
noncomputable def o487 (P : Params) : Obj := ⟨.type "code", none, (.fields #[.str "done" 905, .str "Match.done" 906, .str "/claim/cut.py" 907, .int 342 0, .int 3 0, .int 0 0, .int 0 0, .int 3 0, .ref 482, .bool true, .int 181 0, .ref 483, .none, .ref 484, .ref 485, .ref 486, .int 912 0, .int 342 0, .str "/claim/cut.py" 913]), #[]⟩
noncomputable def o488 (P : Params) : Obj := ⟨.type "function", none, (.func (fnR 3 "Match.done" (stB 77 3) [] .none .none .none (.str "snobol.pattern_machine" 811) none (.ref 487) .none 0)), #[]⟩
noncomputable def o494 (P : Params) : Obj := ⟨.type "code", none, (.fields #[.str "met_once" 915, .str "Match.met_once" 916, .str "/claim/cut.py" 917, .int 364 0, .int 3 0, .int 0 0, .int 0 0, .int 3 0, .ref 489, .bool true, .int 181 0, .ref 490, .none, .ref 491, .ref 492, .ref 493, .int 924 0, .int 364 0, .str "/claim/cut.py" 925]), #[]⟩
noncomputable def o495 (P : Params) : Obj := ⟨.type "function", none, (.func (fnR 3 "Match.met_once" (stB 77 4) [] .none .none .none (.str "snobol.pattern_machine" 811) none (.ref 494) .none 0)), #[]⟩
noncomputable def o501 (P : Params) : Obj := ⟨.type "code", none, (.fields #[.str "ended" 927, .str "Match.ended" 928, .str "/claim/cut.py" 929, .int 378 0, .int 3 0, .int 0 0, .int 0 0, .int 3 0, .ref 496, .bool true, .int 181 0, .ref 497, .none, .ref 498, .ref 499, .ref 500, .int 936 0, .int 378 0, .str "/claim/cut.py" 937]), #[]⟩
noncomputable def o502 (P : Params) : Obj := ⟨.type "function", none, (.func (fnR 3 "Match.ended" (stB 77 5) [] .none .none .none (.str "snobol.pattern_machine" 811) none (.ref 501) .none 0)), #[]⟩
noncomputable def o508 (P : Params) : Obj := ⟨.type "code", none, (.fields #[.str "other" 939, .str "Match.other" 940, .str "/claim/cut.py" 941, .int 389 0, .int 3 0, .int 0 0, .int 0 0, .int 3 0, .ref 503, .bool true, .int 181 0, .ref 504, .none, .ref 505, .ref 506, .ref 507, .int 946 0, .int 389 0, .str "/claim/cut.py" 947]), #[]⟩
noncomputable def o509 (P : Params) : Obj := ⟨.type "function", none, (.func (fnR 3 "Match.other" (stB 77 6) [] .none .none .none (.str "snobol.pattern_machine" 811) none (.ref 508) .none 0)), #[]⟩
noncomputable def o515 (P : Params) : Obj := ⟨.type "code", none, (.fields #[.str "met_often" 949, .str "Match.met_often" 950, .str "/claim/cut.py" 951, .int 407 0, .int 3 0, .int 0 0, .int 0 0, .int 3 0, .ref 510, .bool true, .int 181 0, .ref 511, .none, .ref 512, .ref 513, .ref 514, .int 957 0, .int 407 0, .str "/claim/cut.py" 958]), #[]⟩
noncomputable def o516 (P : Params) : Obj := ⟨.type "function", none, (.func (fnR 3 "Match.met_often" (stB 77 7) [] .none .none .none (.str "snobol.pattern_machine" 811) none (.ref 515) .none 0)), #[]⟩
noncomputable def o522 (P : Params) : Obj := ⟨.type "code", none, (.fields #[.str "asked" 960, .str "Match.asked" 961, .str "/claim/cut.py" 962, .int 418 0, .int 3 0, .int 0 0, .int 0 0, .int 3 0, .ref 517, .bool true, .int 181 0, .ref 518, .none, .ref 519, .ref 520, .ref 521, .int 967 0, .int 418 0, .str "/claim/cut.py" 968]), #[]⟩
noncomputable def o523 (P : Params) : Obj := ⟨.type "function", none, (.func (fnR 3 "Match.asked" (stB 77 8) [] .none .none .none (.str "snobol.pattern_machine" 811) none (.ref 522) .none 0)), #[]⟩
noncomputable def o525 (P : Params) : Obj := ⟨.type "dict", none, (.dict #[de P "__module__" 873 (.str "snobol.pattern_machine" 811), de P "__firstlineno__" 877 (.int 317 876), de P "__init__" 886 (.ref 467), de P "run" 897 (.ref 474), de P "way_back" 904 (.ref 481), de P "done" 914 (.ref 488), de P "met_once" 926 (.ref 495), de P "ended" 938 (.ref 502), de P "other" 948 (.ref 509), de P "met_often" 959 (.ref 516), de P "asked" 969 (.ref 523), de P "__static_attributes__" 973 (.ref 524), de P "__dict__" 975 (.ref 527), de P "__weakref__" 977 (.ref 528), de P "__doc__" 978 .none] 4), #[]⟩
noncomputable def o526 (P : Params) : Obj := ⟨.type "type", none, (.cls ⟨"Match", [.type "object"], [.ref 526, .type "object"], 525, "Match", true, [], [], false, none, false⟩), #[none, none, some (.str "Match" 866), some (.str "Match" 874), some (.builtin "object.__new__"), some (.bool true)]⟩
noncomputable def o536 (P : Params) : Obj := ⟨.type "code", none, (.fields #[.str "named_rows" 981, .str "named_rows" 982, .str "/claim/cut.py" 983, .int 425 0, .int 1 0, .int 0 0, .int 0 0, .int 3 0, .ref 531, .bool true, .int 181 0, .ref 532, .none, .ref 533, .ref 534, .ref 535, .int 987 0, .int 425 0, .str "/claim/cut.py" 988]), #[]⟩
noncomputable def o537 (P : Params) : Obj := ⟨.type "function", none, (.func (fnR 3 "named_rows" (stA 78) [] .none .none .none (.str "snobol.pattern_machine" 811) none (.ref 536) .none 0)), #[]⟩
noncomputable def o543 (P : Params) : Obj := ⟨.type "code", none, (.fields #[.str "match_orders" 990, .str "match_orders" 991, .str "/claim/cut.py" 992, .int 432 0, .int 4 0, .int 0 0, .int 0 0, .int 3 0, .ref 538, .bool true, .int 181 0, .ref 539, .none, .ref 540, .ref 541, .ref 542, .int 1000 0, .int 432 0, .str "/claim/cut.py" 1001]), #[]⟩
noncomputable def o544 (P : Params) : Obj := ⟨.type "function", none, (.func (fnR 3 "match_orders" (stA 79) [] .none .none .none (.str "snobol.pattern_machine" 811) none (.ref 543) .none 0)), #[]⟩
noncomputable def o557 (P : Params) : Obj := ⟨.type "code", none, (.fields #[.str "__init__" 1017, .str "PlainHost.__init__" 1018, .str "/claim/cut.py" 1019, .int 443 0, .int 4 0, .int 0 0, .int 0 0, .int 3 0, .ref 552, .bool true, .int 181 0, .ref 553, .none, .ref 554, .ref 555, .ref 556, .int 1024 0, .int 443 0, .str "/claim/cut.py" 1025]), #[]⟩
noncomputable def o558 (P : Params) : Obj := ⟨.type "function", none, (.func (fnR 3 "PlainHost.__init__" (stB 81 0) [] .none .none .none (.str "snobol.hosts" 1003) none (.ref 557) .none 0)), #[]⟩
noncomputable def o564 (P : Params) : Obj := ⟨.type "code", none, (.fields #[.str "value_of" 1027, .str "PlainHost.value_of" 1028, .str "/claim/cut.py" 1029, .int 451 0, .int 2 0, .int 0 0, .int 0 0, .int 3 0, .ref 559, .bool true, .int 181 0, .ref 560, .none, .ref 561, .ref 562, .ref 563, .int 1032 0, .int 451 0, .str "/claim/cut.py" 1033]), #[]⟩
noncomputable def o565 (P : Params) : Obj := ⟨.type "function", none, (.func (fnR 3 "PlainHost.value_of" (stB 81 1) [] .none .none .none (.str "snobol.hosts" 1003) none (.ref 564) .none 0)), #[]⟩
noncomputable def o571 (P : Params) : Obj := ⟨.type "code", none, (.fields #[.str "assign" 1035, .str "PlainHost.assign" 1036, .str "/claim/cut.py" 1037, .int 456 0, .int 3 0, .int 0 0, .int 0 0, .int 3 0, .ref 566, .bool true, .int 181 0, .ref 567, .none, .ref 568, .ref 569, .ref 570, .int 1041 0, .int 456 0, .str "/claim/cut.py" 1042]), #[]⟩
noncomputable def o572 (P : Params) : Obj := ⟨.type "function", none, (.func (fnR 3 "PlainHost.assign" (stB 81 2) [] .none .none .none (.str "snobol.hosts" 1003) none (.ref 571) .none 0)), #[]⟩
noncomputable def o578 (P : Params) : Obj := ⟨.type "code", none, (.fields #[.str "step" 1044, .str "PlainHost.step" 1045, .str "/claim/cut.py" 1046, .int 463 0, .int 1 0, .int 0 0, .int 0 0, .int 3 0, .ref 573, .bool true, .int 181 0, .ref 574, .none, .ref 575, .ref 576, .ref 577, .int 1048 0, .int 463 0, .str "/claim/cut.py" 1049]), #[]⟩
noncomputable def o579 (P : Params) : Obj := ⟨.type "function", none, (.func (fnR 3 "PlainHost.step" (stB 81 3) [] .none .none .none (.str "snobol.hosts" 1003) none (.ref 578) .none 0)), #[]⟩
noncomputable def o581 (P : Params) : Obj := ⟨.type "dict", none, (.dict #[de P "__module__" 1012 (.str "snobol.hosts" 1003), de P "__firstlineno__" 1016 (.int 441 1015), de P "__init__" 1026 (.ref 558), de P "value_of" 1034 (.ref 565), de P "assign" 1043 (.ref 572), de P "step" 1050 (.ref 579), de P "__static_attributes__" 1057 (.ref 580), de P "__dict__" 1059 (.ref 583), de P "__weakref__" 1061 (.ref 584), de P "__doc__" 1062 .none] 4), #[]⟩
noncomputable def o582 (P : Params) : Obj := ⟨.type "type", none, (.cls ⟨"PlainHost", [.type "object"], [.ref 582, .type "object"], 581, "PlainHost", true, [], [], false, none, false⟩), #[none, none, some (.str "PlainHost" 1005), some (.str "PlainHost" 1013), some (.builtin "object.__new__"), some (.bool true)]⟩
noncomputable def o592 (P : Params) : Obj := ⟨.type "code", none, (.fields #[.str "_law_row" 1067, .str "_law_row" 1068, .str "/claim/cut.py" 1069, .int 468 0, .int 1 0, .int 0 0, .int 0 0, .int 3 0, .ref 587, .bool true, .int 181 0, .ref 588, .none, .ref 589, .ref 590, .ref 591, .int 1073 0, .int 468 0, .str "/claim/cut.py" 1074]), #[]⟩
noncomputable def o593 (P : Params) : Obj := ⟨.type "function", none, (.func (fnR 3 "_law_row" (stA 83) [] .none .none .none (.str "law_xw0310_01" 1065) none (.ref 592) .none 0)), #[]⟩
noncomputable def o599 (P : Params) : Obj := ⟨.type "code", none, (.fields #[.str "_law_any" 1076, .str "_law_any" 1077, .str "/claim/cut.py" 1078, .int 473 0, .int 1 0, .int 0 0, .int 0 0, .int 3 0, .ref 594, .bool true, .int 181 0, .ref 595, .none, .ref 596, .ref 597, .ref 598, .int 1082 0, .int 473 0, .str "/claim/cut.py" 1083]), #[]⟩
noncomputable def o600 (P : Params) : Obj := ⟨.type "function", none, (.func (fnR 3 "_law_any" (stA 84) [] .none .none .none (.str "law_xw0310_01" 1065) none (.ref 599) .none 0)), #[]⟩
noncomputable def o606 (P : Params) : Obj := ⟨.type "code", none, (.fields #[.str "_law_pattern" 1085, .str "_law_pattern" 1086, .str "/claim/cut.py" 1087, .int 478 0, .int 0 0, .int 0 0, .int 0 0, .int 3 0, .ref 601, .bool true, .int 181 0, .ref 602, .none, .ref 603, .ref 604, .ref 605, .int 1094 0, .int 478 0, .str "/claim/cut.py" 1095]), #[]⟩
noncomputable def o607 (P : Params) : Obj := ⟨.type "function", none, (.func (fnR 3 "_law_pattern" (stA 85) [] .none .none .none (.str "law_xw0310_01" 1065) none (.ref 606) .none 0)), #[]⟩
noncomputable def o613 (P : Params) : Obj := ⟨.type "code", none, (.fields #[.str "_law_met" 1097, .str "_law_met" 1098, .str "/claim/cut.py" 1099, .int 485 0, .int 2 0, .int 0 0, .int 0 0, .int 3 0, .ref 608, .bool true, .int 181 0, .ref 609, .none, .ref 610, .ref 611, .ref 612, .int 1102 0, .int 485 0, .str "/claim/cut.py" 1103]), #[]⟩
noncomputable def o614 (P : Params) : Obj := ⟨.type "function", none, (.func (fnR 3 "_law_met" (stA 86) [] .none .none .none (.str "law_xw0310_01" 1065) none (.ref 613) .none 0)), #[]⟩
noncomputable def o620 (P : Params) : Obj := ⟨.type "code", none, (.fields #[.str "_law_jumps" 1105, .str "_law_jumps" 1106, .str "/claim/cut.py" 1107, .int 487 0, .int 2 0, .int 0 0, .int 0 0, .int 3 0, .ref 615, .bool true, .int 181 0, .ref 616, .none, .ref 617, .ref 618, .ref 619, .int 1115 0, .int 487 0, .str "/claim/cut.py" 1116]), #[]⟩
noncomputable def o621 (P : Params) : Obj := ⟨.type "function", none, (.func (fnR 3 "_law_jumps" (stA 87) [] .none .none .none (.str "law_xw0310_01" 1065) none (.ref 620) .none 0)), #[]⟩
noncomputable def o625 (P : Params) : Obj := ⟨.type "code", none, (.fields #[.str "law" 1118, .str "law" 1119, .str "/claim/cut.py" 1120, .int 495 0, .int 1 0, .int 0 0, .int 0 0, .int 3 0, .ref 622, .bool true, .int 181 0, .ref 623, .none, .none, .none, .ref 624, .int 1121 0, .int 495 0, .str "/claim/cut.py" 1122]), #[]⟩
noncomputable def o626 (P : Params) : Obj := ⟨.type "function", none, (.func (fnR 3 "law" (stA 88) [] .none .none .none (.str "law_xw0310_01" 1065) none (.ref 625) .none 0)), #[]⟩
noncomputable def KF : Params → Frag := fun P => [(3, o3 P), (15, o15 P), (16, o16 P), (22, o22 P), (23, o23 P), (29, o29 P), (30, o30 P), (36, o36 P), (37, o37 P), (50, o50 P), (51, o51 P), (57, o57 P), (58, o58 P), (64, o64 P), (65, o65 P), (69, o69 P), (70, o70 P), (76, o76 P), (77, o77 P), (83, o83 P), (84, o84 P), (90, o90 P), (91, o91 P), (93, o93 P), (94, o94 P), (104, o104 P), (105, o105 P), (111, o111 P), (112, o112 P), (121, o121 P), (128, o128 P), (129, o129 P), (131, o131 P), (132, o132 P), (144, o144 P), (145, o145 P), (162, o162 P), (163, o163 P), (165, o165 P), (166, o166 P), (183, o183 P), (184, o184 P), (186, o186 P), (187, o187 P), (204, o204 P), (205, o205 P), (207, o207 P), (208, o208 P), (218, o218 P), (219, o219 P), (225, o225 P), (226, o226 P), (232, o232 P), (233, o233 P), (239, o239 P), (240, o240 P), (246, o246 P), (247, o247 P), (253, o253 P), (254, o254 P), (260, o260 P), (261, o261 P), (262, o262 P), (263, o263 P), (264, o264 P), (270, o270 P), (271, o271 P), (277, o277 P), (278, o278 P), (284, o284 P), (285, o285 P), (291, o291 P), (292, o292 P), (298, o298 P), (299, o299 P), (305, o305 P), (306, o306 P), (312, o312 P), (313, o313 P), (319, o319 P), (320, o320 P), (326, o326 P), (327, o327 P), (333, o333 P), (334, o334 P), (340, o340 P), (341, o341 P), (347, o347 P), (348, o348 P), (354, o354 P), (355, o355 P), (361, o361 P), (362, o362 P), (368, o368 P), (369, o369 P), (375, o375 P), (376, o376 P), (382, o382 P), (383, o383 P), (389, o389 P), (390, o390 P), (396, o396 P), (397, o397 P), (403, o403 P), (404, o404 P), (410, o410 P), (411, o411 P), (417, o417 P), (418, o418 P), (424, o424 P), (425, o425 P), (438, o438 P), (439, o439 P), (445, o445 P), (446, o446 P), (448, o448 P), (449, o449 P), (466, o466 P), (467, o467 P), (473, o473 P), (474, o474 P), (480, o480 P), (481, o481 P), (487, o487 P), (488, o488 P), (494, o494 P), (495, o495 P), (501, o501 P), (502, o502 P), (508, o508 P), (509, o509 P), (515, o515 P), (516, o516 P), (522, o522 P), (523, o523 P), (525, o525 P), (526, o526 P), (536, o536 P), (537, o537 P), (543, o543 P), (544, o544 P), (557, o557 P), (558, o558 P), (564, o564 P), (565, o565 P), (571, o571 P), (572, o572 P), (578, o578 P), (579, o579 P), (581, o581 P), (582, o582 P), (592, o592 P), (593, o593 P), (599, o599 P), (600, o600 P), (606, o606 P), (607, o607 P), (613, o613 P), (614, o614 P), (620, o620 P), (621, o621 P), (625, o625 P), (626, o626 P)]
noncomputable def KA : List Addr := [3, 15, 16, 22, 23, 29, 30, 36, 37, 50, 51, 57, 58, 64, 65, 69, 70, 76, 77, 83, 84, 90, 91, 93, 94, 104, 105, 111, 112, 121, 128, 129, 131, 132, 144, 145, 162, 163, 165, 166, 183, 184, 186, 187, 204, 205, 207, 208, 218, 219, 225, 226, 232, 233, 239, 240, 246, 247, 253, 254, 260, 261, 262, 263, 264, 270, 271, 277, 278, 284, 285, 291, 292, 298, 299, 305, 306, 312, 313, 319, 320, 326, 327, 333, 334, 340, 341, 347, 348, 354, 355, 361, 362, 368, 369, 375, 376, 382, 383, 389, 390, 396, 397, 403, 404, 410, 411, 417, 418, 424, 425, 438, 439, 445, 446, 448, 449, 466, 467, 473, 474, 480, 481, 487, 488, 494, 495, 501, 502, 508, 509, 515, 516, 522, 523, 525, 526, 536, 537, 543, 544, 557, 558, 564, 565, 571, 572, 578, 579, 581, 582, 592, 593, 599, 600, 606, 607, 613, 614, 620, 621, 625, 626]
noncomputable def ch13 (P : Params) (r : List Obj) : List Obj := ⟨.type "code", none, (.fields #[.str "<module>" 182, .str "<module>" 183, .str "/claim/cut.py" 184, .int 1 0, .int 0 0, .int 0 0, .int 0 0, .int 0 0, .ref 11, .bool false, .int 181 0, .ref 12, .none, .none, .none, .none, .int 185 0, .int 1 0, .str "/claim/cut.py" 186]), #[]⟩ :: ⟨.type "frame", none, .plain, #[some (.ref 13), some (.ref 3), some (.ref 3), none, some (.str "__main__" 164), none, some (.ref 0)]⟩ :: o15 P :: o16 P :: ⟨.type "tuple", none, (.seq #[] 0), #[]⟩ :: ⟨.none, none, (.fields #[]), #[]⟩ :: ⟨.type "tuple", none, (.seq #[.str "node" 249, .str "kind" 250, .str "found" 251, .str "waiting" 252, .str "part" 253] 0), #[]⟩ :: ⟨.type "tuple", none, (.seq #[] 0), #[]⟩ :: ⟨.none, none, (.func (fnR 0 "row_of" (stA 23) [] .none .none .none .none none .none .none 0)), #[]⟩ :: o22 P :: o23 P :: ⟨.type "tuple", none, (.seq #[] 0), #[]⟩ :: ⟨.none, none, (.fields #[]), #[]⟩ :: ⟨.type "tuple", none, (.seq #[.str "node" 260] 0), #[]⟩ :: ⟨.type "tuple", none, (.seq #[] 0), #[]⟩ :: ⟨.none, none, (.func (fnR 0 "is_plain_text" (stA 24) [] .none .none .none .none none .none .none 0)), #[]⟩ :: o29 P :: o30 P :: ⟨.type "tuple", none, (.seq #[] 0), #[]⟩ :: ⟨.none, none, (.fields #[]), #[]⟩ :: ⟨.type "tuple", none, (.seq #[.str "parts" 267, .str "found" 268, .str "part" 269] 0), #[]⟩ :: ⟨.type "tuple", none, (.seq #[] 0), #[]⟩ :: ⟨.none, none, (.func (fnR 0 "with_texts_joined" (stA 25) [] .none .none .none .none none .none .none 0)), #[]⟩ :: o36 P :: o37 P :: ⟨.type "tuple", none, (.seq #[] 0), #[]⟩ :: ⟨.type "builtin_function_or_method", none, (.fields #[.builtin "type.__prepare__", .type "type"]), #[]⟩ :: ⟨.type "dict", none, (.dict #[de P "__module__" 280 (.str "snobol.compile_pattern" 187), de P "__qualname__" 282 (.str "PatternCode" 281), de P "__firstlineno__" 284 (.int 45 283), de P "__init__" 291 (.ref 51), de P "emit" 299 (.ref 58), de P "put" 310 (.ref 65), de P "begun" 316 (.ref 70), de P "choice" 327 (.ref 77), de P "repeat" 337 (.ref 84), de P "bound" 347 (.ref 91), de P "__static_attributes__" 349 (.ref 92)] 11), #[]⟩ :: ⟨.type "tuple", none, (.seq #[] 0), #[]⟩ :: ⟨.none, none, (.fields #[.int 47 0, .int 4 0, .ref 50, .int 50 0, .int 4 0, .ref 57, .int 54 0, .int 4 0, .ref 64, .int 65 0, .int 4 0, .ref 69, .int 84 0, .int 4 0, .ref 76, .int 90 0, .int 4 0, .ref 83, .int 97 0, .int 4 0, .ref 90]), #[]⟩ :: ⟨.type "code", none, (.fields #[.str "PatternCode" 275, .str "PatternCode" 276, .str "/claim/cut.py" 277, .int 45 0, .int 0 0, .int 0 0, .int 0 0, .int 0 0, .ref 41, .bool false, .int 181 0, .ref 42, .none, .none, .none, .none, .int 278 0, .int 45 0, .str "/claim/cut.py" 279]), #[]⟩ :: ⟨.type "frame", none, .plain, #[some (.ref 43), some (.ref 3), some (.ref 40), none, some (.str "snobol.compile_pattern" 187), none, some (.ref 0)]⟩ :: ⟨.type "tuple", none, (.seq #[] 0), #[]⟩ :: ⟨.none, none, (.fields #[]), #[]⟩ :: ⟨.type "tuple", none, (.seq #[.str "self" 288] 0), #[]⟩ :: ⟨.type "tuple", none, (.seq #[] 0), #[]⟩ :: ⟨.none, none, (.func (fnR 0 "PatternCode.__init__" (stB 26 0) [] .none .none .none .none none .none .none 0)), #[]⟩ :: o50 P :: o51 P :: ⟨.type "tuple", none, (.seq #[] 0), #[]⟩ :: ⟨.none, none, (.fields #[]), #[]⟩ :: ⟨.type "tuple", none, (.seq #[.str "self" 295, .str "order" 296] 0), #[]⟩ :: ⟨.type "tuple", none, (.seq #[] 0), #[]⟩ :: ⟨.none, none, (.func (fnR 0 "PatternCode.emit" (stB 26 1) [] .none .none .none .none none .none .none 0)), #[]⟩ :: o57 P :: o58 P :: ⟨.type "tuple", none, (.seq #[] 0), #[]⟩ :: ⟨.none, none, (.fields #[]), #[]⟩ :: ⟨.type "tuple", none, (.seq #[.str "self" 303, .str "node" 304, .str "waiting" 305, .str "word" 306, .str "told" 307] 0), #[]⟩ :: ⟨.type "tuple", none, (.seq #[] 0), #[]⟩ :: r
noncomputable def ch63 (P : Params) (r : List Obj) : List Obj := ⟨.none, none, (.func (fnR 0 "PatternCode.put" (stB 26 2) [] .none .none .none .none none .none .none 0)), #[]⟩ :: o64 P :: o65 P :: ⟨.type "tuple", none, (.seq #[] 0), #[]⟩ :: ⟨.none, none, (.fields #[]), #[]⟩ :: ⟨.none, none, (.func (fnR 0 "PatternCode.begun" (stB 26 3) [] .none .none .none .none none .none .none 0)), #[]⟩ :: o69 P :: o70 P :: ⟨.type "tuple", none, (.seq #[] 0), #[]⟩ :: ⟨.none, none, (.fields #[]), #[]⟩ :: ⟨.type "tuple", none, (.seq #[.str "self" 320, .str "parts" 321, .str "found" 322, .str "ends" 323, .str "part" 324] 0), #[]⟩ :: ⟨.type "tuple", none, (.seq #[] 0), #[]⟩ :: ⟨.none, none, (.func (fnR 0 "PatternCode.choice" (stB 26 4) [] .none .none .none .none none .none .none 0)), #[]⟩ :: o76 P :: o77 P :: ⟨.type "tuple", none, (.seq #[] 0), #[]⟩ :: ⟨.none, none, (.fields #[]), #[]⟩ :: ⟨.type "tuple", none, (.seq #[.str "self" 331, .str "node" 332, .str "split" 333, .str "leave" 334] 0), #[]⟩ :: ⟨.type "tuple", none, (.seq #[] 0), #[]⟩ :: ⟨.none, none, (.func (fnR 0 "PatternCode.repeat" (stB 26 5) [] .none .none .none .none none .none .none 0)), #[]⟩ :: o83 P :: o84 P :: ⟨.type "tuple", none, (.seq #[] 0), #[]⟩ :: ⟨.none, none, (.fields #[]), #[]⟩ :: ⟨.type "tuple", none, (.seq #[.str "self" 341, .str "word" 342, .str "ends" 343, .str "at" 344] 0), #[]⟩ :: ⟨.type "tuple", none, (.seq #[] 0), #[]⟩ :: ⟨.none, none, (.func (fnR 0 "PatternCode.bound" (stB 26 6) [] .none .none .none .none none .none .none 0)), #[]⟩ :: o90 P :: o91 P :: ⟨.type "tuple", none, (.seq #[.str "orders" 348] 0), #[]⟩ :: o93 P :: o94 P :: ⟨.type "getset_descriptor", none, (.fields #[.str "__dict__" 350, .ref 94, .builtin "function.__dict__", .builtin "function.__dict__#set"]), #[]⟩ :: ⟨.type "getset_descriptor", none, (.fields #[.str "__weakref__" 352, .ref 94, .builtin "ExceptionGroup.__weakref__", .none]), #[]⟩ :: ⟨.type "super", none, (.fields #[.ref 94, .ref 94, .ref 94]), #[]⟩ :: ⟨.type "builtin_function_or_method", none, (.fields #[.builtin "object.__init_subclass__", .ref 94]), #[]⟩ :: ⟨.type "tuple", none, (.seq #[] 0), #[]⟩ :: ⟨.none, none, (.fields #[]), #[]⟩ :: ⟨.type "tuple", none, (.seq #[.str "orders" 360, .str "found" 361, .str "order" 362, .str "goal" 363] 0), #[]⟩ :: ⟨.type "tuple", none, (.seq #[] 0), #[]⟩ :: ⟨.none, none, (.func (fnR 0 "straightened" (stA 27) [] .none .none .none .none none .none .none 0)), #[]⟩ :: o104 P :: o105 P :: ⟨.type "tuple", none, (.seq #[] 0), #[]⟩ :: ⟨.none, none, (.fields #[]), #[]⟩ :: ⟨.type "tuple", none, (.seq #[.str "node" 370, .str "code" 371] 0), #[]⟩ :: ⟨.type "tuple", none, (.seq #[] 0), #[]⟩ :: ⟨.none, none, (.func (fnR 0 "compile_pattern" (stA 28) [] .none .none .none .none none .none .none 0)), #[]⟩ :: o111 P :: o112 P :: r
noncomputable def ch113 (P : Params) (r : List Obj) : List Obj := ⟨.type "tuple", none, (.seq #[.type "Exception"] 0), #[]⟩ :: ⟨.type "builtin_function_or_method", none, (.fields #[.builtin "type.__prepare__", .type "type"]), #[]⟩ :: ⟨.type "dict", none, (.dict #[de P "__module__" 384 (.str "snobol.values" 375), de P "__qualname__" 386 (.str "SnobolError" 385), de P "__firstlineno__" 388 (.int 122 387), de P "__init__" 399 (.ref 129), de P "__static_attributes__" 402 (.ref 130), de P "__classcell__" 403 (.ref 116)] 6), #[]⟩ :: ⟨.type "cell", none, (.cell (some (.ref 132))), #[]⟩ :: ⟨.type "tuple", none, (.seq #[] 0), #[]⟩ :: ⟨.none, none, (.fields #[.int 124 0, .int 4 0, .ref 128]), #[]⟩ :: ⟨.type "code", none, (.fields #[.str "SnobolError" 379, .str "SnobolError" 380, .str "/claim/cut.py" 381, .int 122 0, .int 0 0, .int 0 0, .int 0 0, .int 0 0, .ref 117, .bool false, .int 181 0, .ref 118, .none, .none, .none, .none, .int 382 0, .int 122 0, .str "/claim/cut.py" 383]), #[]⟩ :: ⟨.type "frame", none, .plain, #[some (.ref 119), some (.ref 3), some (.ref 115), none, some (.str "snobol.values" 375), none, some (.ref 0)]⟩ :: o121 P :: ⟨.type "tuple", none, (.seq #[.ref 116] 0), #[]⟩ :: ⟨.type "tuple", none, (.seq #[.str "__class__" 393] 0), #[]⟩ :: ⟨.none, none, (.fields #[]), #[]⟩ :: ⟨.type "tuple", none, (.seq #[.str "self" 394, .str "number" 395, .str "told" 396] 0), #[]⟩ :: ⟨.type "tuple", none, (.seq #[] 0), #[]⟩ :: ⟨.none, none, (.func (fnR 0 "SnobolError.__init__" (stB 30 0) [] .none .none .none .none none .none .none 0)), #[]⟩ :: o128 P :: o129 P :: ⟨.type "tuple", none, (.seq #[.str "number" 400, .str "told" 401] 0), #[]⟩ :: o131 P :: o132 P :: ⟨.type "getset_descriptor", none, (.fields #[.str "__weakref__" 404, .ref 132, .builtin "ExceptionGroup.__weakref__", .none]), #[]⟩ :: ⟨.type "super", none, (.fields #[.ref 132, .ref 132, .ref 132]), #[]⟩ :: ⟨.type "builtin_function_or_method", none, (.fields #[.builtin "object.__init_subclass__", .ref 132]), #[]⟩ :: ⟨.type "tuple", none, (.seq #[] 0), #[]⟩ :: ⟨.type "builtin_function_or_method", none, (.fields #[.builtin "type.__prepare__", .type "type"]), #[]⟩ :: ⟨.type "dict", none, (.dict #[de P "__module__" 418 (.str "snobol.values" 375), de P "__qualname__" 420 (.str "Failure" 419), de P "__firstlineno__" 422 (.int 128 421), de P "__static_attributes__" 423 (.ref 143)] 4), #[]⟩ :: ⟨.type "tuple", none, (.seq #[] 0), #[]⟩ :: ⟨.none, none, (.fields #[]), #[]⟩ :: ⟨.type "code", none, (.fields #[.str "Failure" 413, .str "Failure" 414, .str "/claim/cut.py" 415, .int 128 0, .int 0 0, .int 0 0, .int 0 0, .int 0 0, .ref 139, .bool false, .int 181 0, .ref 140, .none, .none, .none, .none, .int 416 0, .int 128 0, .str "/claim/cut.py" 417]), #[]⟩ :: ⟨.type "frame", none, .plain, #[some (.ref 141), some (.ref 3), some (.ref 138), none, some (.str "snobol.values" 375), none, some (.ref 0)]⟩ :: ⟨.type "tuple", none, (.seq #[] 0), #[]⟩ :: o144 P :: o145 P :: ⟨.type "getset_descriptor", none, (.fields #[.str "__dict__" 424, .ref 145, .builtin "function.__dict__", .builtin "function.__dict__#set"]), #[]⟩ :: ⟨.type "getset_descriptor", none, (.fields #[.str "__weakref__" 426, .ref 145, .builtin "ExceptionGroup.__weakref__", .none]), #[]⟩ :: ⟨.type "super", none, (.fields #[.ref 145, .ref 145, .ref 145]), #[]⟩ :: ⟨.type "builtin_function_or_method", none, (.fields #[.builtin "object.__init_subclass__", .ref 145]), #[]⟩ :: ⟨.type "tuple", none, (.seq #[] 0), #[]⟩ :: ⟨.type "builtin_function_or_method", none, (.fields #[.builtin "type.__prepare__", .type "type"]), #[]⟩ :: ⟨.type "dict", none, (.dict #[de P "__module__" 438 (.str "snobol.values" 375), de P "__qualname__" 440 (.str "Pattern" 439), de P "__firstlineno__" 442 (.int 130 441), de P "__init__" 450 (.ref 163), de P "__static_attributes__" 452 (.ref 164)] 5), #[]⟩ :: ⟨.type "tuple", none, (.seq #[] 0), #[]⟩ :: ⟨.none, none, (.fields #[.int 132 0, .int 4 0, .ref 162]), #[]⟩ :: ⟨.type "code", none, (.fields #[.str "Pattern" 433, .str "Pattern" 434, .str "/claim/cut.py" 435, .int 130 0, .int 0 0, .int 0 0, .int 0 0, .int 0 0, .ref 153, .bool false, .int 181 0, .ref 154, .none, .none, .none, .none, .int 436 0, .int 130 0, .str "/claim/cut.py" 437]), #[]⟩ :: ⟨.type "frame", none, .plain, #[some (.ref 155), some (.ref 3), some (.ref 152), none, some (.str "snobol.values" 375), none, some (.ref 0)]⟩ :: ⟨.type "tuple", none, (.seq #[] 0), #[]⟩ :: ⟨.none, none, (.fields #[]), #[]⟩ :: ⟨.type "tuple", none, (.seq #[.str "self" 446, .str "node" 447] 0), #[]⟩ :: ⟨.type "tuple", none, (.seq #[] 0), #[]⟩ :: ⟨.none, none, (.func (fnR 0 "Pattern.__init__" (stB 32 0) [] .none .none .none .none none .none .none 0)), #[]⟩ :: o162 P :: r
noncomputable def ch163 (P : Params) (r : List Obj) : List Obj := o163 P :: ⟨.type "tuple", none, (.seq #[.str "node" 451] 0), #[]⟩ :: o165 P :: o166 P :: ⟨.type "getset_descriptor", none, (.fields #[.str "__dict__" 453, .ref 166, .builtin "function.__dict__", .builtin "function.__dict__#set"]), #[]⟩ :: ⟨.type "getset_descriptor", none, (.fields #[.str "__weakref__" 455, .ref 166, .builtin "ExceptionGroup.__weakref__", .none]), #[]⟩ :: ⟨.type "super", none, (.fields #[.ref 166, .ref 166, .ref 166]), #[]⟩ :: ⟨.type "builtin_function_or_method", none, (.fields #[.builtin "object.__init_subclass__", .ref 166]), #[]⟩ :: ⟨.type "tuple", none, (.seq #[] 0), #[]⟩ :: ⟨.type "builtin_function_or_method", none, (.fields #[.builtin "type.__prepare__", .type "type"]), #[]⟩ :: ⟨.type "dict", none, (.dict #[de P "__module__" 467 (.str "snobol.values" 375), de P "__qualname__" 469 (.str "Delayed" 468), de P "__firstlineno__" 471 (.int 134 470), de P "__init__" 479 (.ref 184), de P "__static_attributes__" 481 (.ref 185)] 5), #[]⟩ :: ⟨.type "tuple", none, (.seq #[] 0), #[]⟩ :: ⟨.none, none, (.fields #[.int 136 0, .int 4 0, .ref 183]), #[]⟩ :: ⟨.type "code", none, (.fields #[.str "Delayed" 462, .str "Delayed" 463, .str "/claim/cut.py" 464, .int 134 0, .int 0 0, .int 0 0, .int 0 0, .int 0 0, .ref 174, .bool false, .int 181 0, .ref 175, .none, .none, .none, .none, .int 465 0, .int 134 0, .str "/claim/cut.py" 466]), #[]⟩ :: ⟨.type "frame", none, .plain, #[some (.ref 176), some (.ref 3), some (.ref 173), none, some (.str "snobol.values" 375), none, some (.ref 0)]⟩ :: ⟨.type "tuple", none, (.seq #[] 0), #[]⟩ :: ⟨.none, none, (.fields #[]), #[]⟩ :: ⟨.type "tuple", none, (.seq #[.str "self" 475, .str "tree" 476] 0), #[]⟩ :: ⟨.type "tuple", none, (.seq #[] 0), #[]⟩ :: ⟨.none, none, (.func (fnR 0 "Delayed.__init__" (stB 33 0) [] .none .none .none .none none .none .none 0)), #[]⟩ :: o183 P :: o184 P :: ⟨.type "tuple", none, (.seq #[.str "tree" 480] 0), #[]⟩ :: o186 P :: o187 P :: ⟨.type "getset_descriptor", none, (.fields #[.str "__dict__" 482, .ref 187, .builtin "function.__dict__", .builtin "function.__dict__#set"]), #[]⟩ :: ⟨.type "getset_descriptor", none, (.fields #[.str "__weakref__" 484, .ref 187, .builtin "ExceptionGroup.__weakref__", .none]), #[]⟩ :: ⟨.type "super", none, (.fields #[.ref 187, .ref 187, .ref 187]), #[]⟩ :: ⟨.type "builtin_function_or_method", none, (.fields #[.builtin "object.__init_subclass__", .ref 187]), #[]⟩ :: ⟨.type "tuple", none, (.seq #[] 0), #[]⟩ :: ⟨.type "builtin_function_or_method", none, (.fields #[.builtin "type.__prepare__", .type "type"]), #[]⟩ :: ⟨.type "dict", none, (.dict #[de P "__module__" 496 (.str "snobol.values" 375), de P "__qualname__" 498 (.str "NameRef" 497), de P "__firstlineno__" 500 (.int 138 499), de P "__init__" 510 (.ref 205), de P "__static_attributes__" 514 (.ref 206)] 5), #[]⟩ :: ⟨.type "tuple", none, (.seq #[] 0), #[]⟩ :: ⟨.none, none, (.fields #[.int 140 0, .int 4 0, .ref 204]), #[]⟩ :: ⟨.type "code", none, (.fields #[.str "NameRef" 491, .str "NameRef" 492, .str "/claim/cut.py" 493, .int 138 0, .int 0 0, .int 0 0, .int 0 0, .int 0 0, .ref 195, .bool false, .int 181 0, .ref 196, .none, .none, .none, .none, .int 494 0, .int 138 0, .str "/claim/cut.py" 495]), #[]⟩ :: ⟨.type "frame", none, .plain, #[some (.ref 197), some (.ref 3), some (.ref 194), none, some (.str "snobol.values" 375), none, some (.ref 0)]⟩ :: ⟨.type "tuple", none, (.seq #[] 0), #[]⟩ :: ⟨.none, none, (.fields #[]), #[]⟩ :: ⟨.type "tuple", none, (.seq #[.str "self" 504, .str "kind" 505, .str "owner" 506, .str "key" 507] 0), #[]⟩ :: ⟨.type "tuple", none, (.seq #[] 0), #[]⟩ :: ⟨.none, none, (.func (fnR 0 "NameRef.__init__" (stB 34 0) [] .none .none .none .none none .none .none 0)), #[]⟩ :: o204 P :: o205 P :: ⟨.type "tuple", none, (.seq #[.str "key" 511, .str "kind" 512, .str "owner" 513] 0), #[]⟩ :: o207 P :: o208 P :: ⟨.type "getset_descriptor", none, (.fields #[.str "__dict__" 515, .ref 208, .builtin "function.__dict__", .builtin "function.__dict__#set"]), #[]⟩ :: ⟨.type "getset_descriptor", none, (.fields #[.str "__weakref__" 517, .ref 208, .builtin "ExceptionGroup.__weakref__", .none]), #[]⟩ :: ⟨.type "super", none, (.fields #[.ref 208, .ref 208, .ref 208]), #[]⟩ :: ⟨.type "builtin_function_or_method", none, (.fields #[.builtin "object.__init_subclass__", .ref 208]), #[]⟩ :: r
noncomputable def ch213 (P : Params) (r : List Obj) : List Obj := ⟨.type "tuple", none, (.seq #[] 0), #[]⟩ :: ⟨.none, none, (.fields #[]), #[]⟩ :: ⟨.type "tuple", none, (.seq #[.str "value" 525] 0), #[]⟩ :: ⟨.type "tuple", none, (.seq #[] 0), #[]⟩ :: ⟨.none, none, (.func (fnR 0 "is_fail" (stA 35) [] .none .none .none .none none .none .none 0)), #[]⟩ :: o218 P :: o219 P :: ⟨.type "tuple", none, (.seq #[] 0), #[]⟩ :: ⟨.none, none, (.fields #[]), #[]⟩ :: ⟨.type "tuple", none, (.seq #[.str "number" 532, .str "width" 533] 0), #[]⟩ :: ⟨.type "tuple", none, (.seq #[] 0), #[]⟩ :: ⟨.none, none, (.func (fnR 0 "fits" (stA 36) [] .none .none .none .none none .none .none 0)), #[]⟩ :: o225 P :: o226 P :: ⟨.type "tuple", none, (.seq #[] 0), #[]⟩ :: ⟨.none, none, (.fields #[]), #[]⟩ :: ⟨.type "tuple", none, (.seq #[.str "text" 540, .str "width" 541, .str "digits" 542, .str "number" 543, .str "sign" 544] 0), #[]⟩ :: ⟨.type "tuple", none, (.seq #[] 0), #[]⟩ :: ⟨.none, none, (.func (fnR 0 "whole_of_text" (stA 37) [] .none .none .none .none none .none .none 0)), #[]⟩ :: o232 P :: o233 P :: ⟨.type "tuple", none, (.seq #[] 0), #[]⟩ :: ⟨.none, none, (.fields #[]), #[]⟩ :: ⟨.type "tuple", none, (.seq #[.str "number" 551, .str "left" 552, .str "found" 553] 0), #[]⟩ :: ⟨.type "tuple", none, (.seq #[] 0), #[]⟩ :: ⟨.none, none, (.func (fnR 0 "text_of_whole" (stA 38) [] .none .none .none .none none .none .none 0)), #[]⟩ :: o239 P :: o240 P :: ⟨.type "tuple", none, (.seq #[] 0), #[]⟩ :: ⟨.none, none, (.fields #[]), #[]⟩ :: ⟨.type "tuple", none, (.seq #[.str "value" 560, .str "width" 561] 0), #[]⟩ :: ⟨.type "tuple", none, (.seq #[] 0), #[]⟩ :: ⟨.none, none, (.func (fnR 0 "to_whole" (stA 39) [] .none .none .none .none none .none .none 0)), #[]⟩ :: o246 P :: o247 P :: ⟨.type "tuple", none, (.seq #[] 0), #[]⟩ :: ⟨.none, none, (.fields #[]), #[]⟩ :: ⟨.type "tuple", none, (.seq #[.str "value" 568] 0), #[]⟩ :: ⟨.type "tuple", none, (.seq #[] 0), #[]⟩ :: ⟨.none, none, (.func (fnR 0 "to_text" (stA 40) [] .none .none .none .none none .none .none 0)), #[]⟩ :: o253 P :: o254 P :: ⟨.type "tuple", none, (.seq #[] 0), #[]⟩ :: ⟨.none, none, (.fields #[]), #[]⟩ :: ⟨.type "tuple", none, (.seq #[.str "value" 575, .str "text" 576] 0), #[]⟩ :: ⟨.type "tuple", none, (.seq #[] 0), #[]⟩ :: ⟨.none, none, (.func (fnR 0 "need_text" (stA 41) [] .none .none .none .none none .none .none 0)), #[]⟩ :: o260 P :: o261 P :: o262 P :: r
noncomputable def ch263 (P : Params) (r : List Obj) : List Obj := o263 P :: o264 P :: ⟨.type "tuple", none, (.seq #[] 0), #[]⟩ :: ⟨.none, none, (.fields #[]), #[]⟩ :: ⟨.type "tuple", none, (.seq #[.str "value" 598, .str "kind" 599, .str "width" 600, .str "count" 601] 0), #[]⟩ :: ⟨.type "tuple", none, (.seq #[] 0), #[]⟩ :: ⟨.none, none, (.func (fnR 0 "plain_count" (stA 46) [] .none .none .none .none none .none .none 0)), #[]⟩ :: o270 P :: o271 P :: ⟨.type "tuple", none, (.seq #[] 0), #[]⟩ :: ⟨.none, none, (.fields #[]), #[]⟩ :: ⟨.type "tuple", none, (.seq #[.str "value" 608, .str "kind" 609, .str "text" 610] 0), #[]⟩ :: ⟨.type "tuple", none, (.seq #[] 0), #[]⟩ :: ⟨.none, none, (.func (fnR 0 "plain_signs" (stA 47) [] .none .none .none .none none .none .none 0)), #[]⟩ :: o277 P :: o278 P :: ⟨.type "tuple", none, (.seq #[] 0), #[]⟩ :: ⟨.none, none, (.fields #[]), #[]⟩ :: ⟨.type "tuple", none, (.seq #[.str "value" 617, .str "text" 618] 0), #[]⟩ :: ⟨.type "tuple", none, (.seq #[] 0), #[]⟩ :: ⟨.none, none, (.func (fnR 0 "pattern_of" (stA 48) [] .none .none .none .none none .none .none 0)), #[]⟩ :: o284 P :: o285 P :: ⟨.type "tuple", none, (.seq #[] 0), #[]⟩ :: ⟨.none, none, (.fields #[]), #[]⟩ :: ⟨.type "tuple", none, (.seq #[.str "told" 625] 0), #[]⟩ :: ⟨.type "tuple", none, (.seq #[] 0), #[]⟩ :: ⟨.none, none, (.func (fnR 0 "is_delayed" (stA 49) [] .none .none .none .none none .none .none 0)), #[]⟩ :: o291 P :: o292 P :: ⟨.type "tuple", none, (.seq #[] 0), #[]⟩ :: ⟨.none, none, (.fields #[]), #[]⟩ :: ⟨.type "tuple", none, (.seq #[.str "node" 632, .str "host" 633, .str "value" 634] 0), #[]⟩ :: ⟨.type "tuple", none, (.seq #[] 0), #[]⟩ :: ⟨.none, none, (.func (fnR 0 "settled" (stA 50) [] .none .none .none .none none .none .none 0)), #[]⟩ :: o298 P :: o299 P :: ⟨.type "tuple", none, (.seq #[] 0), #[]⟩ :: ⟨.none, none, (.fields #[]), #[]⟩ :: ⟨.type "tuple", none, (.seq #[.str "subject" 647, .str "at" 648, .str "text" 649, .str "end" 650] 0), #[]⟩ :: ⟨.type "tuple", none, (.seq #[] 0), #[]⟩ :: ⟨.none, none, (.func (fnR 0 "chars_end" (stA 54) [] .none .none .none .none none .none .none 0)), #[]⟩ :: o305 P :: o306 P :: ⟨.type "tuple", none, (.seq #[] 0), #[]⟩ :: ⟨.none, none, (.fields #[]), #[]⟩ :: ⟨.type "tuple", none, (.seq #[.str "subject" 657, .str "at" 658, .str "many" 659] 0), #[]⟩ :: ⟨.type "tuple", none, (.seq #[] 0), #[]⟩ :: ⟨.none, none, (.func (fnR 0 "len_end" (stA 55) [] .none .none .none .none none .none .none 0)), #[]⟩ :: o312 P :: r
noncomputable def ch313 (P : Params) (r : List Obj) : List Obj := o313 P :: ⟨.type "tuple", none, (.seq #[] 0), #[]⟩ :: ⟨.none, none, (.fields #[]), #[]⟩ :: ⟨.type "tuple", none, (.seq #[.str "at" 666, .str "place" 667] 0), #[]⟩ :: ⟨.type "tuple", none, (.seq #[] 0), #[]⟩ :: ⟨.none, none, (.func (fnR 0 "pos_end" (stA 56) [] .none .none .none .none none .none .none 0)), #[]⟩ :: o319 P :: o320 P :: ⟨.type "tuple", none, (.seq #[] 0), #[]⟩ :: ⟨.none, none, (.fields #[]), #[]⟩ :: ⟨.type "tuple", none, (.seq #[.str "subject" 674, .str "at" 675, .str "place" 676] 0), #[]⟩ :: ⟨.type "tuple", none, (.seq #[] 0), #[]⟩ :: ⟨.none, none, (.func (fnR 0 "rpos_end" (stA 57) [] .none .none .none .none none .none .none 0)), #[]⟩ :: o326 P :: o327 P :: ⟨.type "tuple", none, (.seq #[] 0), #[]⟩ :: ⟨.none, none, (.fields #[]), #[]⟩ :: ⟨.type "tuple", none, (.seq #[.str "subject" 683, .str "at" 684, .str "place" 685] 0), #[]⟩ :: ⟨.type "tuple", none, (.seq #[] 0), #[]⟩ :: ⟨.none, none, (.func (fnR 0 "tab_end" (stA 58) [] .none .none .none .none none .none .none 0)), #[]⟩ :: o333 P :: o334 P :: ⟨.type "tuple", none, (.seq #[] 0), #[]⟩ :: ⟨.none, none, (.fields #[]), #[]⟩ :: ⟨.type "tuple", none, (.seq #[.str "subject" 692, .str "at" 693, .str "place" 694, .str "goal" 695] 0), #[]⟩ :: ⟨.type "tuple", none, (.seq #[] 0), #[]⟩ :: ⟨.none, none, (.func (fnR 0 "rtab_end" (stA 59) [] .none .none .none .none none .none .none 0)), #[]⟩ :: o340 P :: o341 P :: ⟨.type "tuple", none, (.seq #[] 0), #[]⟩ :: ⟨.none, none, (.fields #[]), #[]⟩ :: ⟨.type "tuple", none, (.seq #[.str "subject" 702] 0), #[]⟩ :: ⟨.type "tuple", none, (.seq #[] 0), #[]⟩ :: ⟨.none, none, (.func (fnR 0 "rem_end" (stA 60) [] .none .none .none .none none .none .none 0)), #[]⟩ :: o347 P :: o348 P :: ⟨.type "tuple", none, (.seq #[] 0), #[]⟩ :: ⟨.none, none, (.fields #[]), #[]⟩ :: ⟨.type "tuple", none, (.seq #[.str "subject" 709, .str "at" 710, .str "signs" 711] 0), #[]⟩ :: ⟨.type "tuple", none, (.seq #[] 0), #[]⟩ :: ⟨.none, none, (.func (fnR 0 "any_at" (stA 61) [] .none .none .none .none none .none .none 0)), #[]⟩ :: o354 P :: o355 P :: ⟨.type "tuple", none, (.seq #[] 0), #[]⟩ :: ⟨.none, none, (.fields #[]), #[]⟩ :: ⟨.type "tuple", none, (.seq #[.str "subject" 718, .str "at" 719, .str "signs" 720] 0), #[]⟩ :: ⟨.type "tuple", none, (.seq #[] 0), #[]⟩ :: ⟨.none, none, (.func (fnR 0 "notany_at" (stA 62) [] .none .none .none .none none .none .none 0)), #[]⟩ :: o361 P :: o362 P :: r
noncomputable def ch363 (P : Params) (r : List Obj) : List Obj := ⟨.type "tuple", none, (.seq #[] 0), #[]⟩ :: ⟨.none, none, (.fields #[]), #[]⟩ :: ⟨.type "tuple", none, (.seq #[.str "subject" 727, .str "at" 728, .str "signs" 729, .str "is_in" 730] 0), #[]⟩ :: ⟨.type "tuple", none, (.seq #[] 0), #[]⟩ :: ⟨.none, none, (.func (fnR 0 "run_end" (stA 63) [] .none .none .none .none none .none .none 0)), #[]⟩ :: o368 P :: o369 P :: ⟨.type "tuple", none, (.seq #[] 0), #[]⟩ :: ⟨.none, none, (.fields #[]), #[]⟩ :: ⟨.type "tuple", none, (.seq #[.str "subject" 737, .str "at" 738, .str "signs" 739, .str "end" 740] 0), #[]⟩ :: ⟨.type "tuple", none, (.seq #[] 0), #[]⟩ :: ⟨.none, none, (.func (fnR 0 "span_end" (stA 64) [] .none .none .none .none none .none .none 0)), #[]⟩ :: o375 P :: o376 P :: ⟨.type "tuple", none, (.seq #[] 0), #[]⟩ :: ⟨.none, none, (.fields #[]), #[]⟩ :: ⟨.type "tuple", none, (.seq #[.str "subject" 747, .str "at" 748, .str "signs" 749, .str "end" 750] 0), #[]⟩ :: ⟨.type "tuple", none, (.seq #[] 0), #[]⟩ :: ⟨.none, none, (.func (fnR 0 "break_end" (stA 65) [] .none .none .none .none none .none .none 0)), #[]⟩ :: o382 P :: o383 P :: ⟨.type "tuple", none, (.seq #[] 0), #[]⟩ :: ⟨.none, none, (.fields #[]), #[]⟩ :: ⟨.type "tuple", none, (.seq #[.str "subject" 757, .str "at" 758] 0), #[]⟩ :: ⟨.type "tuple", none, (.seq #[] 0), #[]⟩ :: ⟨.none, none, (.func (fnR 0 "arb_ends" (stA 66) [] .none .none .none .none none .none .none 0)), #[]⟩ :: o389 P :: o390 P :: ⟨.type "tuple", none, (.seq #[] 0), #[]⟩ :: ⟨.none, none, (.fields #[]), #[]⟩ :: ⟨.type "tuple", none, (.seq #[.str "subject" 765, .str "at" 766, .str "level" 767] 0), #[]⟩ :: ⟨.type "tuple", none, (.seq #[] 0), #[]⟩ :: ⟨.none, none, (.func (fnR 0 "bal_end" (stA 67) [] .none .none .none .none none .none .none 0)), #[]⟩ :: o396 P :: o397 P :: ⟨.type "tuple", none, (.seq #[] 0), #[]⟩ :: ⟨.none, none, (.fields #[]), #[]⟩ :: ⟨.type "tuple", none, (.seq #[.str "subject" 774, .str "at" 775, .str "found" 776, .str "end" 777] 0), #[]⟩ :: ⟨.type "tuple", none, (.seq #[] 0), #[]⟩ :: ⟨.none, none, (.func (fnR 0 "bal_ends" (stA 68) [] .none .none .none .none none .none .none 0)), #[]⟩ :: o403 P :: o404 P :: ⟨.type "tuple", none, (.seq #[] 0), #[]⟩ :: ⟨.none, none, (.fields #[]), #[]⟩ :: ⟨.type "tuple", none, (.seq #[.str "kind" 784, .str "subject" 785, .str "at" 786, .str "told" 787] 0), #[]⟩ :: ⟨.type "tuple", none, (.seq #[] 0), #[]⟩ :: ⟨.none, none, (.func (fnR 0 "one_end" (stA 69) [] .none .none .none .none none .none .none 0)), #[]⟩ :: o410 P :: o411 P :: ⟨.type "tuple", none, (.seq #[] 0), #[]⟩ :: r
noncomputable def ch413 (P : Params) (r : List Obj) : List Obj := ⟨.none, none, (.fields #[]), #[]⟩ :: ⟨.type "tuple", none, (.seq #[.str "node" 794, .str "subject" 795, .str "at" 796] 0), #[]⟩ :: ⟨.type "tuple", none, (.seq #[] 0), #[]⟩ :: ⟨.none, none, (.func (fnR 0 "plain_end" (stA 70) [] .none .none .none .none none .none .none 0)), #[]⟩ :: o417 P :: o418 P :: ⟨.type "tuple", none, (.seq #[] 0), #[]⟩ :: ⟨.none, none, (.fields #[]), #[]⟩ :: ⟨.type "tuple", none, (.seq #[.str "kind" 803, .str "subject" 804, .str "at" 805, .str "told" 806, .str "end" 807] 0), #[]⟩ :: ⟨.type "tuple", none, (.seq #[] 0), #[]⟩ :: ⟨.none, none, (.func (fnR 0 "ends_of" (stA 71) [] .none .none .none .none none .none .none 0)), #[]⟩ :: o424 P :: o425 P :: ⟨.type "tuple", none, (.seq #[] 0), #[]⟩ :: ⟨.type "builtin_function_or_method", none, (.fields #[.builtin "type.__prepare__", .type "type"]), #[]⟩ :: ⟨.type "dict", none, (.dict #[de P "__module__" 826 (.str "snobol.pattern_machine" 811), de P "__qualname__" 828 (.str "Way" 827), de P "__firstlineno__" 830 (.int 305 829), de P "__init__" 843 (.ref 439), de P "copied" 851 (.ref 446), de P "__static_attributes__" 858 (.ref 447)] 6), #[]⟩ :: ⟨.type "tuple", none, (.seq #[] 0), #[]⟩ :: ⟨.none, none, (.fields #[.int 307 0, .int 4 0, .ref 438, .int 315 0, .int 4 0, .ref 445]), #[]⟩ :: ⟨.type "code", none, (.fields #[.str "Way" 821, .str "Way" 822, .str "/claim/cut.py" 823, .int 305 0, .int 0 0, .int 0 0, .int 0 0, .int 0 0, .ref 429, .bool false, .int 181 0, .ref 430, .none, .none, .none, .none, .int 824 0, .int 305 0, .str "/claim/cut.py" 825]), #[]⟩ :: ⟨.type "frame", none, .plain, #[some (.ref 431), some (.ref 3), some (.ref 428), none, some (.str "snobol.pattern_machine" 811), none, some (.ref 0)]⟩ :: ⟨.type "tuple", none, (.seq #[] 0), #[]⟩ :: ⟨.none, none, (.fields #[]), #[]⟩ :: ⟨.type "tuple", none, (.seq #[.str "self" 834, .str "orders" 835, .str "pc" 836, .str "at" 837, .str "named" 838, .str "marks" 839, .str "calls" 840] 0), #[]⟩ :: ⟨.type "tuple", none, (.seq #[] 0), #[]⟩ :: ⟨.none, none, (.func (fnR 0 "Way.__init__" (stB 76 0) [] .none .none .none .none none .none .none 0)), #[]⟩ :: o438 P :: o439 P :: ⟨.type "tuple", none, (.seq #[] 0), #[]⟩ :: ⟨.none, none, (.fields #[]), #[]⟩ :: ⟨.type "tuple", none, (.seq #[.str "self" 847, .str "pc" 848] 0), #[]⟩ :: ⟨.type "tuple", none, (.seq #[] 0), #[]⟩ :: ⟨.none, none, (.func (fnR 0 "Way.copied" (stB 76 1) [] .none .none .none .none none .none .none 0)), #[]⟩ :: o445 P :: o446 P :: ⟨.type "tuple", none, (.seq #[.str "at" 852, .str "calls" 853, .str "marks" 854, .str "named" 855, .str "orders" 856, .str "pc" 857] 0), #[]⟩ :: o448 P :: o449 P :: ⟨.type "getset_descriptor", none, (.fields #[.str "__dict__" 859, .ref 449, .builtin "function.__dict__", .builtin "function.__dict__#set"]), #[]⟩ :: ⟨.type "getset_descriptor", none, (.fields #[.str "__weakref__" 861, .ref 449, .builtin "ExceptionGroup.__weakref__", .none]), #[]⟩ :: ⟨.type "super", none, (.fields #[.ref 449, .ref 449, .ref 449]), #[]⟩ :: ⟨.type "builtin_function_or_method", none, (.fields #[.builtin "object.__init_subclass__", .ref 449]), #[]⟩ :: ⟨.type "tuple", none, (.seq #[] 0), #[]⟩ :: ⟨.type "builtin_function_or_method", none, (.fields #[.builtin "type.__prepare__", .type "type"]), #[]⟩ :: ⟨.type "dict", none, (.dict #[de P "__module__" 873 (.str "snobol.pattern_machine" 811), de P "__qualname__" 875 (.str "Match" 874), de P "__firstlineno__" 877 (.int 317 876), de P "__init__" 886 (.ref 467), de P "run" 897 (.ref 474), de P "way_back" 904 (.ref 481), de P "done" 914 (.ref 488), de P "met_once" 926 (.ref 495), de P "ended" 938 (.ref 502), de P "other" 948 (.ref 509), de P "met_often" 959 (.ref 516), de P "asked" 969 (.ref 523), de P "__static_attributes__" 973 (.ref 524)] 13), #[]⟩ :: ⟨.type "tuple", none, (.seq #[] 0), #[]⟩ :: ⟨.none, none, (.fields #[.int 319 0, .int 4 0, .ref 466, .int 324 0, .int 4 0, .ref 473, .int 339 0, .int 4 0, .ref 480, .int 342 0, .int 4 0, .ref 487, .int 364 0, .int 4 0, .ref 494, .int 378 0, .int 4 0, .ref 501, .int 389 0, .int 4 0, .ref 508, .int 407 0, .int 4 0, .ref 515, .int 418 0, .int 4 0, .ref 522]), #[]⟩ :: ⟨.type "code", none, (.fields #[.str "Match" 868, .str "Match" 869, .str "/claim/cut.py" 870, .int 317 0, .int 0 0, .int 0 0, .int 0 0, .int 0 0, .ref 457, .bool false, .int 181 0, .ref 458, .none, .none, .none, .none, .int 871 0, .int 317 0, .str "/claim/cut.py" 872]), #[]⟩ :: ⟨.type "frame", none, .plain, #[some (.ref 459), some (.ref 3), some (.ref 456), none, some (.str "snobol.pattern_machine" 811), none, some (.ref 0)]⟩ :: ⟨.type "tuple", none, (.seq #[] 0), #[]⟩ :: ⟨.none, none, (.fields #[]), #[]⟩ :: r
noncomputable def ch463 (P : Params) (r : List Obj) : List Obj := ⟨.type "tuple", none, (.seq #[.str "self" 881, .str "subject" 882, .str "host" 883] 0), #[]⟩ :: ⟨.type "tuple", none, (.seq #[] 0), #[]⟩ :: ⟨.none, none, (.func (fnR 0 "Match.__init__" (stB 77 0) [] .none .none .none .none none .none .none 0)), #[]⟩ :: o466 P :: o467 P :: ⟨.type "tuple", none, (.seq #[] 0), #[]⟩ :: ⟨.none, none, (.fields #[]), #[]⟩ :: ⟨.type "tuple", none, (.seq #[.str "self" 890, .str "orders" 891, .str "begin" 892, .str "way" 893, .str "order" 894] 0), #[]⟩ :: ⟨.type "tuple", none, (.seq #[] 0), #[]⟩ :: ⟨.none, none, (.func (fnR 0 "Match.run" (stB 77 1) [] .none .none .none .none none .none .none 0)), #[]⟩ :: o473 P :: o474 P :: ⟨.type "tuple", none, (.seq #[] 0), #[]⟩ :: ⟨.none, none, (.fields #[]), #[]⟩ :: ⟨.type "tuple", none, (.seq #[.str "self" 901] 0), #[]⟩ :: ⟨.type "tuple", none, (.seq #[] 0), #[]⟩ :: ⟨.none, none, (.func (fnR 0 "Match.way_back" (stB 77 2) [] .none .none .none .none none .none .none 0)), #[]⟩ :: o480 P :: o481 P :: ⟨.type "tuple", none, (.seq #[] 0), #[]⟩ :: ⟨.none, none, (.fields #[]), #[]⟩ :: ⟨.type "tuple", none, (.seq #[.str "self" 908, .str "order" 909, .str "way" 910, .str "word" 911] 0), #[]⟩ :: ⟨.type "tuple", none, (.seq #[] 0), #[]⟩ :: ⟨.none, none, (.func (fnR 0 "Match.done" (stB 77 3) [] .none .none .none .none none .none .none 0)), #[]⟩ :: o487 P :: o488 P :: ⟨.type "tuple", none, (.seq #[] 0), #[]⟩ :: ⟨.none, none, (.fields #[]), #[]⟩ :: ⟨.type "tuple", none, (.seq #[.str "self" 918, .str "order" 919, .str "way" 920, .str "told" 921, .str "node" 922, .str "end" 923] 0), #[]⟩ :: ⟨.type "tuple", none, (.seq #[] 0), #[]⟩ :: ⟨.none, none, (.func (fnR 0 "Match.met_once" (stB 77 4) [] .none .none .none .none none .none .none 0)), #[]⟩ :: o494 P :: o495 P :: ⟨.type "tuple", none, (.seq #[] 0), #[]⟩ :: ⟨.none, none, (.fields #[]), #[]⟩ :: ⟨.type "tuple", none, (.seq #[.str "self" 930, .str "order" 931, .str "way" 932, .str "marks" 933, .str "begin" 934, .str "text" 935] 0), #[]⟩ :: ⟨.type "tuple", none, (.seq #[] 0), #[]⟩ :: ⟨.none, none, (.func (fnR 0 "Match.ended" (stB 77 5) [] .none .none .none .none none .none .none 0)), #[]⟩ :: o501 P :: o502 P :: ⟨.type "tuple", none, (.seq #[] 0), #[]⟩ :: ⟨.none, none, (.fields #[]), #[]⟩ :: ⟨.type "tuple", none, (.seq #[.str "self" 942, .str "order" 943, .str "way" 944, .str "word" 945] 0), #[]⟩ :: ⟨.type "tuple", none, (.seq #[] 0), #[]⟩ :: ⟨.none, none, (.func (fnR 0 "Match.other" (stB 77 6) [] .none .none .none .none none .none .none 0)), #[]⟩ :: o508 P :: o509 P :: ⟨.type "tuple", none, (.seq #[] 0), #[]⟩ :: ⟨.none, none, (.fields #[]), #[]⟩ :: ⟨.type "tuple", none, (.seq #[.str "self" 952, .str "way" 953, .str "ends" 954, .str "end" 955, .str "other" 956] 0), #[]⟩ :: r
noncomputable def ch513 (P : Params) (r : List Obj) : List Obj := ⟨.type "tuple", none, (.seq #[] 0), #[]⟩ :: ⟨.none, none, (.func (fnR 0 "Match.met_often" (stB 77 7) [] .none .none .none .none none .none .none 0)), #[]⟩ :: o515 P :: o516 P :: ⟨.type "tuple", none, (.seq #[] 0), #[]⟩ :: ⟨.none, none, (.fields #[]), #[]⟩ :: ⟨.type "tuple", none, (.seq #[.str "self" 963, .str "tree" 964, .str "way" 965, .str "value" 966] 0), #[]⟩ :: ⟨.type "tuple", none, (.seq #[] 0), #[]⟩ :: ⟨.none, none, (.func (fnR 0 "Match.asked" (stB 77 8) [] .none .none .none .none none .none .none 0)), #[]⟩ :: o522 P :: o523 P :: ⟨.type "tuple", none, (.seq #[.str "history" 970, .str "host" 971, .str "subject" 972] 0), #[]⟩ :: o525 P :: o526 P :: ⟨.type "getset_descriptor", none, (.fields #[.str "__dict__" 974, .ref 526, .builtin "function.__dict__", .builtin "function.__dict__#set"]), #[]⟩ :: ⟨.type "getset_descriptor", none, (.fields #[.str "__weakref__" 976, .ref 526, .builtin "ExceptionGroup.__weakref__", .none]), #[]⟩ :: ⟨.type "super", none, (.fields #[.ref 526, .ref 526, .ref 526]), #[]⟩ :: ⟨.type "builtin_function_or_method", none, (.fields #[.builtin "object.__init_subclass__", .ref 526]), #[]⟩ :: ⟨.type "tuple", none, (.seq #[] 0), #[]⟩ :: ⟨.none, none, (.fields #[]), #[]⟩ :: ⟨.type "tuple", none, (.seq #[.str "named" 984, .str "found" 985, .str "last" 986] 0), #[]⟩ :: ⟨.type "tuple", none, (.seq #[] 0), #[]⟩ :: ⟨.none, none, (.func (fnR 0 "named_rows" (stA 78) [] .none .none .none .none none .none .none 0)), #[]⟩ :: o536 P :: o537 P :: ⟨.type "tuple", none, (.seq #[] 0), #[]⟩ :: ⟨.none, none, (.fields #[]), #[]⟩ :: ⟨.type "tuple", none, (.seq #[.str "orders" 993, .str "subject" 994, .str "is_anchored" 995, .str "host" 996, .str "begin" 997, .str "how" 998, .str "way" 999] 0), #[]⟩ :: ⟨.type "tuple", none, (.seq #[] 0), #[]⟩ :: ⟨.none, none, (.func (fnR 0 "match_orders" (stA 79) [] .none .none .none .none none .none .none 0)), #[]⟩ :: o543 P :: o544 P :: ⟨.type "tuple", none, (.seq #[] 0), #[]⟩ :: ⟨.type "builtin_function_or_method", none, (.fields #[.builtin "type.__prepare__", .type "type"]), #[]⟩ :: ⟨.type "dict", none, (.dict #[de P "__module__" 1012 (.str "snobol.hosts" 1003), de P "__qualname__" 1014 (.str "PlainHost" 1013), de P "__firstlineno__" 1016 (.int 441 1015), de P "__init__" 1026 (.ref 558), de P "value_of" 1034 (.ref 565), de P "assign" 1043 (.ref 572), de P "step" 1050 (.ref 579), de P "__static_attributes__" 1057 (.ref 580)] 8), #[]⟩ :: ⟨.type "tuple", none, (.seq #[] 0), #[]⟩ :: ⟨.none, none, (.fields #[.int 443 0, .int 4 0, .ref 557, .int 451 0, .int 4 0, .ref 564, .int 456 0, .int 4 0, .ref 571, .int 463 0, .int 4 0, .ref 578]), #[]⟩ :: ⟨.type "code", none, (.fields #[.str "PlainHost" 1007, .str "PlainHost" 1008, .str "/claim/cut.py" 1009, .int 441 0, .int 0 0, .int 0 0, .int 0 0, .int 0 0, .ref 548, .bool false, .int 181 0, .ref 549, .none, .none, .none, .none, .int 1010 0, .int 441 0, .str "/claim/cut.py" 1011]), #[]⟩ :: ⟨.type "frame", none, .plain, #[some (.ref 550), some (.ref 3), some (.ref 547), none, some (.str "snobol.hosts" 1003), none, some (.ref 0)]⟩ :: ⟨.type "tuple", none, (.seq #[] 0), #[]⟩ :: ⟨.none, none, (.fields #[]), #[]⟩ :: ⟨.type "tuple", none, (.seq #[.str "self" 1020, .str "values" 1021, .str "limit" 1022, .str "refused" 1023] 0), #[]⟩ :: ⟨.type "tuple", none, (.seq #[] 0), #[]⟩ :: ⟨.none, none, (.func (fnR 0 "PlainHost.__init__" (stB 81 0) [] .none .none .none .none none .none .none 0)), #[]⟩ :: o557 P :: o558 P :: ⟨.type "tuple", none, (.seq #[] 0), #[]⟩ :: ⟨.none, none, (.fields #[]), #[]⟩ :: ⟨.type "tuple", none, (.seq #[.str "self" 1030, .str "tree" 1031] 0), #[]⟩ :: ⟨.type "tuple", none, (.seq #[] 0), #[]⟩ :: r
noncomputable def ch563 (P : Params) (r : List Obj) : List Obj := ⟨.none, none, (.func (fnR 0 "PlainHost.value_of" (stB 81 1) [] .none .none .none .none none .none .none 0)), #[]⟩ :: o564 P :: o565 P :: ⟨.type "tuple", none, (.seq #[] 0), #[]⟩ :: ⟨.none, none, (.fields #[]), #[]⟩ :: ⟨.type "tuple", none, (.seq #[.str "self" 1038, .str "ref" 1039, .str "value" 1040] 0), #[]⟩ :: ⟨.type "tuple", none, (.seq #[] 0), #[]⟩ :: ⟨.none, none, (.func (fnR 0 "PlainHost.assign" (stB 81 2) [] .none .none .none .none none .none .none 0)), #[]⟩ :: o571 P :: o572 P :: ⟨.type "tuple", none, (.seq #[] 0), #[]⟩ :: ⟨.none, none, (.fields #[]), #[]⟩ :: ⟨.type "tuple", none, (.seq #[.str "self" 1047] 0), #[]⟩ :: ⟨.type "tuple", none, (.seq #[] 0), #[]⟩ :: ⟨.none, none, (.func (fnR 0 "PlainHost.step" (stB 81 3) [] .none .none .none .none none .none .none 0)), #[]⟩ :: o578 P :: o579 P :: ⟨.type "tuple", none, (.seq #[.str "limit" 1051, .str "log" 1052, .str "refused" 1053, .str "steps" 1054, .str "values" 1055, .str "width" 1056] 0), #[]⟩ :: o581 P :: o582 P :: ⟨.type "getset_descriptor", none, (.fields #[.str "__dict__" 1058, .ref 582, .builtin "function.__dict__", .builtin "function.__dict__#set"]), #[]⟩ :: ⟨.type "getset_descriptor", none, (.fields #[.str "__weakref__" 1060, .ref 582, .builtin "ExceptionGroup.__weakref__", .none]), #[]⟩ :: ⟨.type "super", none, (.fields #[.ref 582, .ref 582, .ref 582]), #[]⟩ :: ⟨.type "builtin_function_or_method", none, (.fields #[.builtin "object.__init_subclass__", .ref 582]), #[]⟩ :: ⟨.type "tuple", none, (.seq #[] 0), #[]⟩ :: ⟨.none, none, (.fields #[]), #[]⟩ :: ⟨.type "tuple", none, (.seq #[.str "parts" 1070, .str "node" 1071, .str "part" 1072] 0), #[]⟩ :: ⟨.type "tuple", none, (.seq #[] 0), #[]⟩ :: ⟨.none, none, (.func (fnR 0 "_law_row" (stA 83) [] .none .none .none .none none .none .none 0)), #[]⟩ :: o592 P :: o593 P :: ⟨.type "tuple", none, (.seq #[] 0), #[]⟩ :: ⟨.none, none, (.fields #[]), #[]⟩ :: ⟨.type "tuple", none, (.seq #[.str "parts" 1079, .str "node" 1080, .str "part" 1081] 0), #[]⟩ :: ⟨.type "tuple", none, (.seq #[] 0), #[]⟩ :: ⟨.none, none, (.func (fnR 0 "_law_any" (stA 84) [] .none .none .none .none none .none .none 0)), #[]⟩ :: o599 P :: o600 P :: ⟨.type "tuple", none, (.seq #[] 0), #[]⟩ :: ⟨.none, none, (.fields #[]), #[]⟩ :: ⟨.type "tuple", none, (.seq #[.str "noughts" 1088, .str "ones" 1089, .str "left" 1090, .str "right" 1091, .str "middle" 1092, .str "rows" 1093] 0), #[]⟩ :: ⟨.type "tuple", none, (.seq #[] 0), #[]⟩ :: ⟨.none, none, (.func (fnR 0 "_law_pattern" (stA 85) [] .none .none .none .none none .none .none 0)), #[]⟩ :: o606 P :: o607 P :: ⟨.type "tuple", none, (.seq #[] 0), #[]⟩ :: ⟨.none, none, (.fields #[]), #[]⟩ :: ⟨.type "tuple", none, (.seq #[.str "orders" 1100, .str "row" 1101] 0), #[]⟩ :: ⟨.type "tuple", none, (.seq #[] 0), #[]⟩ :: ⟨.none, none, (.func (fnR 0 "_law_met" (stA 86) [] .none .none .none .none none .none .none 0)), #[]⟩ :: r
noncomputable def ch613 (P : Params) (r : List Obj) : List Obj := o613 P :: o614 P :: ⟨.type "tuple", none, (.seq #[] 0), #[]⟩ :: ⟨.none, none, (.fields #[]), #[]⟩ :: ⟨.type "tuple", none, (.seq #[.str "orders" 1108, .str "row" 1109, .str "host" 1110, .str "laters" 1111, .str "name" 1112, .str "place" 1113, .str "piece" 1114] 0), #[]⟩ :: ⟨.type "tuple", none, (.seq #[] 0), #[]⟩ :: ⟨.none, none, (.func (fnR 0 "_law_jumps" (stA 87) [] .none .none .none .none none .none .none 0)), #[]⟩ :: o620 P :: o621 P :: ⟨.type "tuple", none, (.seq #[] 0), #[]⟩ :: ⟨.none, none, (.fields #[]), #[]⟩ :: ⟨.none, none, (.func (fnR 0 "law" (stA 88) [] .none .none .none .none none .none .none 0)), #[]⟩ :: o625 P :: o626 P :: r
noncomputable def obsL (P : Params) : List Obj := ch13 P (ch63 P (ch113 P (ch163 P (ch213 P (ch263 P (ch313 P (ch363 P (ch413 P (ch463 P (ch513 P (ch563 P (ch613 P []))))))))))))
noncomputable def hpL (P : Params) (a b c : Obj) (n : Nat) : List Obj := boot_o_0 P :: boot_o_1 P :: a :: b :: boot_o_4 P :: boot_o_5 P :: boot_o_6 P :: boot_o_7 P :: boot_o_8 P :: boot_o_9 P :: boot_o_10 P :: ⟨.type "tuple", none, (.seq #[] 0), #[]⟩ :: c :: takeL n (obsL P)
noncomputable def stO (P : Params) (a b c : Obj) (n k : Nat) (os : OsState) : SharedT := ⟨insL 0 (hpL P a b c (n - 13)) .nil, n, (boot_heap P).life, #[], boot_drawn, k, os⟩
noncomputable def env0 : Env := { scope := pw.main.scope, locals := mainNs, globals := mainNs, cells := [], code := .ref 13, frame := some 14 }
noncomputable def cd0 : Code := .body (behindTheImports pw) env0
noncomputable def st0 (P : Params) (os : OsState) : SharedT := (stO P ⟨.none, none, (.dict #[] 0), #[]⟩ (o3' P (.str "__main__" 164) 8 9) ⟨.none, none, (.fields #[]), #[]⟩ 15 187 os)
noncomputable def st1 (P : Params) (os : OsState) : SharedT := (stO P ⟨.none, none, (.dict #[] 0), #[]⟩ (o3' P (.str "snobol.compile_pattern" 187) 33 34) ⟨.none, none, (.fields #[.int 24 0, .int 0 0, .ref 22, .int 33 0, .int 0 0, .ref 29, .int 35 0, .int 0 0, .ref 36]), #[]⟩ 38 273 os)
noncomputable def sl1 : List Stmt := [stA 0, stA 1, stA 2, stA 3, stA 4, stA 5, stA 6, stA 7, stA 8, stA 9, stA 10, stA 11, stA 12, stA 13, stA 14, stA 15, stA 16, stA 17, stA 18, stA 19, stA 20, stA 21, stA 22, stA 23, stA 24, stA 25]
noncomputable def st2 (P : Params) (os : OsState) : SharedT := (stO P ⟨.none, none, (.dict #[] 0), #[]⟩ (o3' P (.str "snobol.compile_pattern" 187) 34 35) ⟨.none, none, (.fields #[.int 24 0, .int 0 0, .ref 22, .int 33 0, .int 0 0, .ref 29, .int 35 0, .int 0 0, .ref 36, .int 45 0, .int 0 0, .ref 43]), #[]⟩ 99 357 os)
noncomputable def sl2 : List Stmt := [stA 26]
noncomputable def st3 (P : Params) (os : OsState) : SharedT := (stO P ⟨.none, none, (.dict #[de P "type.__subclasses__.Exception.0" 407 (.int 132 0), de P "type.__subclasses__.Exception.n" 408 (.int 1 0)] 2), #[]⟩ (o3' P (.str "snobol.values" 375) 37 38) ⟨.none, none, (.fields #[.int 24 0, .int 0 0, .ref 22, .int 33 0, .int 0 0, .ref 29, .int 35 0, .int 0 0, .ref 36, .int 45 0, .int 0 0, .ref 43, .int 106 0, .int 0 0, .ref 104, .int 116 0, .int 0 0, .ref 111, .int 122 0, .int 0 0, .ref 119]), #[]⟩ 136 411 os)
noncomputable def sl3 : List Stmt := [stA 27, stA 28, stA 29, stA 30]
noncomputable def st4 (P : Params) (os : OsState) : SharedT := (stO P ⟨.none, none, (.dict #[de P "type.__subclasses__.Exception.0" 407 (.int 132 0), de P "type.__subclasses__.Exception.n" 408 (.int 1 0)] 2), #[]⟩ (o3' P (.str "snobol.values" 375) 39 40) ⟨.none, none, (.fields #[.int 24 0, .int 0 0, .ref 22, .int 33 0, .int 0 0, .ref 29, .int 35 0, .int 0 0, .ref 36, .int 45 0, .int 0 0, .ref 43, .int 106 0, .int 0 0, .ref 104, .int 116 0, .int 0 0, .ref 111, .int 122 0, .int 0 0, .ref 119, .int 128 0, .int 0 0, .ref 141, .int 130 0, .int 0 0, .ref 155]), #[]⟩ 171 460 os)
noncomputable def sl4 : List Stmt := [stA 31, stA 32]
noncomputable def st5 (P : Params) (os : OsState) : SharedT := (stO P ⟨.none, none, (.dict #[de P "type.__subclasses__.Exception.0" 407 (.int 132 0), de P "type.__subclasses__.Exception.n" 408 (.int 1 0)] 2), #[]⟩ (o3' P (.str "snobol.values" 375) 40 41) ⟨.none, none, (.fields #[.int 24 0, .int 0 0, .ref 22, .int 33 0, .int 0 0, .ref 29, .int 35 0, .int 0 0, .ref 36, .int 45 0, .int 0 0, .ref 43, .int 106 0, .int 0 0, .ref 104, .int 116 0, .int 0 0, .ref 111, .int 122 0, .int 0 0, .ref 119, .int 128 0, .int 0 0, .ref 141, .int 130 0, .int 0 0, .ref 155, .int 134 0, .int 0 0, .ref 176]), #[]⟩ 192 489 os)
noncomputable def sl5 : List Stmt := [stA 33]
noncomputable def st6 (P : Params) (os : OsState) : SharedT := (stO P ⟨.none, none, (.dict #[de P "type.__subclasses__.Exception.0" 407 (.int 132 0), de P "type.__subclasses__.Exception.n" 408 (.int 1 0)] 2), #[]⟩ (o3' P (.str "snobol.values" 375) 47 48) ⟨.none, none, (.fields #[.int 24 0, .int 0 0, .ref 22, .int 33 0, .int 0 0, .ref 29, .int 35 0, .int 0 0, .ref 36, .int 45 0, .int 0 0, .ref 43, .int 106 0, .int 0 0, .ref 104, .int 116 0, .int 0 0, .ref 111, .int 122 0, .int 0 0, .ref 119, .int 128 0, .int 0 0, .ref 141, .int 130 0, .int 0 0, .ref 155, .int 134 0, .int 0 0, .ref 176, .int 138 0, .int 0 0, .ref 197, .int 144 0, .int 0 0, .ref 218, .int 146 0, .int 0 0, .ref 225, .int 148 0, .int 0 0, .ref 232, .int 161 0, .int 0 0, .ref 239, .int 167 0, .int 0 0, .ref 246, .int 171 0, .int 0 0, .ref 253]), #[]⟩ 255 572 os)
noncomputable def sl6 : List Stmt := [stA 34, stA 35, stA 36, stA 37, stA 38, stA 39, stA 40]
noncomputable def st7 (P : Params) (os : OsState) : SharedT := (stO P ⟨.none, none, (.dict #[de P "type.__subclasses__.Exception.0" 407 (.int 132 0), de P "type.__subclasses__.Exception.n" 408 (.int 1 0)] 2), #[]⟩ (o3' P (.str "snobol.primitives" 638) 63 64) ⟨.none, none, (.fields #[.int 24 0, .int 0 0, .ref 22, .int 33 0, .int 0 0, .ref 29, .int 35 0, .int 0 0, .ref 36, .int 45 0, .int 0 0, .ref 43, .int 106 0, .int 0 0, .ref 104, .int 116 0, .int 0 0, .ref 111, .int 122 0, .int 0 0, .ref 119, .int 128 0, .int 0 0, .ref 141, .int 130 0, .int 0 0, .ref 155, .int 134 0, .int 0 0, .ref 176, .int 138 0, .int 0 0, .ref 197, .int 144 0, .int 0 0, .ref 218, .int 146 0, .int 0 0, .ref 225, .int 148 0, .int 0 0, .ref 232, .int 161 0, .int 0 0, .ref 239, .int 167 0, .int 0 0, .ref 246, .int 171 0, .int 0 0, .ref 253, .int 175 0, .int 0 0, .ref 260, .int 184 0, .int 0 0, .ref 270, .int 191 0, .int 0 0, .ref 277, .int 196 0, .int 0 0, .ref 284, .int 205 0, .int 0 0, .ref 291, .int 207 0, .int 0 0, .ref 298, .int 219 0, .int 0 0, .ref 305, .int 222 0, .int 0 0, .ref 312, .int 224 0, .int 0 0, .ref 319, .int 226 0, .int 0 0, .ref 326, .int 228 0, .int 0 0, .ref 333]), #[]⟩ 335 689 os)
noncomputable def sl7 : List Stmt := [stA 41, stA 42, stA 43, stA 44, stA 45, stA 46, stA 47, stA 48, stA 49, stA 50, stA 51, stA 52, stA 53, stA 54, stA 55, stA 56, stA 57, stA 58]
noncomputable def st8 (P : Params) (os : OsState) : SharedT := (stO P ⟨.none, none, (.dict #[de P "type.__subclasses__.Exception.0" 407 (.int 132 0), de P "type.__subclasses__.Exception.n" 408 (.int 1 0)] 2), #[]⟩ (o3' P (.str "snobol.pattern_machine" 811) 76 77) ⟨.none, none, (.fields #[.int 24 0, .int 0 0, .ref 22, .int 33 0, .int 0 0, .ref 29, .int 35 0, .int 0 0, .ref 36, .int 45 0, .int 0 0, .ref 43, .int 106 0, .int 0 0, .ref 104, .int 116 0, .int 0 0, .ref 111, .int 122 0, .int 0 0, .ref 119, .int 128 0, .int 0 0, .ref 141, .int 130 0, .int 0 0, .ref 155, .int 134 0, .int 0 0, .ref 176, .int 138 0, .int 0 0, .ref 197, .int 144 0, .int 0 0, .ref 218, .int 146 0, .int 0 0, .ref 225, .int 148 0, .int 0 0, .ref 232, .int 161 0, .int 0 0, .ref 239, .int 167 0, .int 0 0, .ref 246, .int 171 0, .int 0 0, .ref 253, .int 175 0, .int 0 0, .ref 260, .int 184 0, .int 0 0, .ref 270, .int 191 0, .int 0 0, .ref 277, .int 196 0, .int 0 0, .ref 284, .int 205 0, .int 0 0, .ref 291, .int 207 0, .int 0 0, .ref 298, .int 219 0, .int 0 0, .ref 305, .int 222 0, .int 0 0, .ref 312, .int 224 0, .int 0 0, .ref 319, .int 226 0, .int 0 0, .ref 326, .int 228 0, .int 0 0, .ref 333, .int 230 0, .int 0 0, .ref 340, .int 233 0, .int 0 0, .ref 347, .int 235 0, .int 0 0, .ref 354, .int 237 0, .int 0 0, .ref 361, .int 239 0, .int 0 0, .ref 368, .int 243 0, .int 0 0, .ref 375, .int 246 0, .int 0 0, .ref 382, .int 249 0, .int 0 0, .ref 389, .int 251 0, .int 0 0, .ref 396, .int 264 0, .int 0 0, .ref 403, .int 270 0, .int 0 0, .ref 410, .int 290 0, .int 0 0, .ref 417, .int 292 0, .int 0 0, .ref 424]), #[]⟩ 426 813 os)
noncomputable def sl8 : List Stmt := [stA 59, stA 60, stA 61, stA 62, stA 63, stA 64, stA 65, stA 66, stA 67, stA 68, stA 69, stA 70, stA 71, stA 72]
noncomputable def st9 (P : Params) (os : OsState) : SharedT := (stO P ⟨.none, none, (.dict #[de P "type.__subclasses__.Exception.0" 407 (.int 132 0), de P "type.__subclasses__.Exception.n" 408 (.int 1 0)] 2), #[]⟩ (o3' P (.str "snobol.pattern_machine" 811) 80 81) ⟨.none, none, (.fields #[.int 24 0, .int 0 0, .ref 22, .int 33 0, .int 0 0, .ref 29, .int 35 0, .int 0 0, .ref 36, .int 45 0, .int 0 0, .ref 43, .int 106 0, .int 0 0, .ref 104, .int 116 0, .int 0 0, .ref 111, .int 122 0, .int 0 0, .ref 119, .int 128 0, .int 0 0, .ref 141, .int 130 0, .int 0 0, .ref 155, .int 134 0, .int 0 0, .ref 176, .int 138 0, .int 0 0, .ref 197, .int 144 0, .int 0 0, .ref 218, .int 146 0, .int 0 0, .ref 225, .int 148 0, .int 0 0, .ref 232, .int 161 0, .int 0 0, .ref 239, .int 167 0, .int 0 0, .ref 246, .int 171 0, .int 0 0, .ref 253, .int 175 0, .int 0 0, .ref 260, .int 184 0, .int 0 0, .ref 270, .int 191 0, .int 0 0, .ref 277, .int 196 0, .int 0 0, .ref 284, .int 205 0, .int 0 0, .ref 291, .int 207 0, .int 0 0, .ref 298, .int 219 0, .int 0 0, .ref 305, .int 222 0, .int 0 0, .ref 312, .int 224 0, .int 0 0, .ref 319, .int 226 0, .int 0 0, .ref 326, .int 228 0, .int 0 0, .ref 333, .int 230 0, .int 0 0, .ref 340, .int 233 0, .int 0 0, .ref 347, .int 235 0, .int 0 0, .ref 354, .int 237 0, .int 0 0, .ref 361, .int 239 0, .int 0 0, .ref 368, .int 243 0, .int 0 0, .ref 375, .int 246 0, .int 0 0, .ref 382, .int 249 0, .int 0 0, .ref 389, .int 251 0, .int 0 0, .ref 396, .int 264 0, .int 0 0, .ref 403, .int 270 0, .int 0 0, .ref 410, .int 290 0, .int 0 0, .ref 417, .int 292 0, .int 0 0, .ref 424, .int 305 0, .int 0 0, .ref 431]), #[]⟩ 454 866 os)
noncomputable def sl9 : List Stmt := [stA 73, stA 74, stA 75, stA 76]
noncomputable def st10 (P : Params) (os : OsState) : SharedT := (stO P ⟨.none, none, (.dict #[de P "type.__subclasses__.Exception.0" 407 (.int 132 0), de P "type.__subclasses__.Exception.n" 408 (.int 1 0)] 2), #[]⟩ (o3' P (.str "snobol.pattern_machine" 811) 81 82) ⟨.none, none, (.fields #[.int 24 0, .int 0 0, .ref 22, .int 33 0, .int 0 0, .ref 29, .int 35 0, .int 0 0, .ref 36, .int 45 0, .int 0 0, .ref 43, .int 106 0, .int 0 0, .ref 104, .int 116 0, .int 0 0, .ref 111, .int 122 0, .int 0 0, .ref 119, .int 128 0, .int 0 0, .ref 141, .int 130 0, .int 0 0, .ref 155, .int 134 0, .int 0 0, .ref 176, .int 138 0, .int 0 0, .ref 197, .int 144 0, .int 0 0, .ref 218, .int 146 0, .int 0 0, .ref 225, .int 148 0, .int 0 0, .ref 232, .int 161 0, .int 0 0, .ref 239, .int 167 0, .int 0 0, .ref 246, .int 171 0, .int 0 0, .ref 253, .int 175 0, .int 0 0, .ref 260, .int 184 0, .int 0 0, .ref 270, .int 191 0, .int 0 0, .ref 277, .int 196 0, .int 0 0, .ref 284, .int 205 0, .int 0 0, .ref 291, .int 207 0, .int 0 0, .ref 298, .int 219 0, .int 0 0, .ref 305, .int 222 0, .int 0 0, .ref 312, .int 224 0, .int 0 0, .ref 319, .int 226 0, .int 0 0, .ref 326, .int 228 0, .int 0 0, .ref 333, .int 230 0, .int 0 0, .ref 340, .int 233 0, .int 0 0, .ref 347, .int 235 0, .int 0 0, .ref 354, .int 237 0, .int 0 0, .ref 361, .int 239 0, .int 0 0, .ref 368, .int 243 0, .int 0 0, .ref 375, .int 246 0, .int 0 0, .ref 382, .int 249 0, .int 0 0, .ref 389, .int 251 0, .int 0 0, .ref 396, .int 264 0, .int 0 0, .ref 403, .int 270 0, .int 0 0, .ref 410, .int 290 0, .int 0 0, .ref 417, .int 292 0, .int 0 0, .ref 424, .int 305 0, .int 0 0, .ref 431, .int 317 0, .int 0 0, .ref 459]), #[]⟩ 531 981 os)
noncomputable def sl10 : List Stmt := [stA 77]
noncomputable def st11 (P : Params) (os : OsState) : SharedT := (stO P ⟨.none, none, (.dict #[de P "type.__subclasses__.Exception.0" 407 (.int 132 0), de P "type.__subclasses__.Exception.n" 408 (.int 1 0)] 2), #[]⟩ (o3' P (.str "law_xw0310_01" 1065) 84 85) ⟨.none, none, (.fields #[.int 24 0, .int 0 0, .ref 22, .int 33 0, .int 0 0, .ref 29, .int 35 0, .int 0 0, .ref 36, .int 45 0, .int 0 0, .ref 43, .int 106 0, .int 0 0, .ref 104, .int 116 0, .int 0 0, .ref 111, .int 122 0, .int 0 0, .ref 119, .int 128 0, .int 0 0, .ref 141, .int 130 0, .int 0 0, .ref 155, .int 134 0, .int 0 0, .ref 176, .int 138 0, .int 0 0, .ref 197, .int 144 0, .int 0 0, .ref 218, .int 146 0, .int 0 0, .ref 225, .int 148 0, .int 0 0, .ref 232, .int 161 0, .int 0 0, .ref 239, .int 167 0, .int 0 0, .ref 246, .int 171 0, .int 0 0, .ref 253, .int 175 0, .int 0 0, .ref 260, .int 184 0, .int 0 0, .ref 270, .int 191 0, .int 0 0, .ref 277, .int 196 0, .int 0 0, .ref 284, .int 205 0, .int 0 0, .ref 291, .int 207 0, .int 0 0, .ref 298, .int 219 0, .int 0 0, .ref 305, .int 222 0, .int 0 0, .ref 312, .int 224 0, .int 0 0, .ref 319, .int 226 0, .int 0 0, .ref 326, .int 228 0, .int 0 0, .ref 333, .int 230 0, .int 0 0, .ref 340, .int 233 0, .int 0 0, .ref 347, .int 235 0, .int 0 0, .ref 354, .int 237 0, .int 0 0, .ref 361, .int 239 0, .int 0 0, .ref 368, .int 243 0, .int 0 0, .ref 375, .int 246 0, .int 0 0, .ref 382, .int 249 0, .int 0 0, .ref 389, .int 251 0, .int 0 0, .ref 396, .int 264 0, .int 0 0, .ref 403, .int 270 0, .int 0 0, .ref 410, .int 290 0, .int 0 0, .ref 417, .int 292 0, .int 0 0, .ref 424, .int 305 0, .int 0 0, .ref 431, .int 317 0, .int 0 0, .ref 459, .int 425 0, .int 0 0, .ref 536, .int 432 0, .int 0 0, .ref 543, .int 441 0, .int 0 0, .ref 550]), #[]⟩ 587 1067 os)
noncomputable def sl11 : List Stmt := [stA 78, stA 79, stA 80, stA 81, stA 82]
noncomputable def st12 (P : Params) (os : OsState) : SharedT := (stO P ⟨.none, none, (.dict #[de P "type.__subclasses__.Exception.0" 407 (.int 132 0), de P "type.__subclasses__.Exception.n" 408 (.int 1 0)] 2), #[]⟩ (o3' P (.str "law_xw0310_01" 1065) 90 91) ⟨.none, none, (.fields #[.int 24 0, .int 0 0, .ref 22, .int 33 0, .int 0 0, .ref 29, .int 35 0, .int 0 0, .ref 36, .int 45 0, .int 0 0, .ref 43, .int 106 0, .int 0 0, .ref 104, .int 116 0, .int 0 0, .ref 111, .int 122 0, .int 0 0, .ref 119, .int 128 0, .int 0 0, .ref 141, .int 130 0, .int 0 0, .ref 155, .int 134 0, .int 0 0, .ref 176, .int 138 0, .int 0 0, .ref 197, .int 144 0, .int 0 0, .ref 218, .int 146 0, .int 0 0, .ref 225, .int 148 0, .int 0 0, .ref 232, .int 161 0, .int 0 0, .ref 239, .int 167 0, .int 0 0, .ref 246, .int 171 0, .int 0 0, .ref 253, .int 175 0, .int 0 0, .ref 260, .int 184 0, .int 0 0, .ref 270, .int 191 0, .int 0 0, .ref 277, .int 196 0, .int 0 0, .ref 284, .int 205 0, .int 0 0, .ref 291, .int 207 0, .int 0 0, .ref 298, .int 219 0, .int 0 0, .ref 305, .int 222 0, .int 0 0, .ref 312, .int 224 0, .int 0 0, .ref 319, .int 226 0, .int 0 0, .ref 326, .int 228 0, .int 0 0, .ref 333, .int 230 0, .int 0 0, .ref 340, .int 233 0, .int 0 0, .ref 347, .int 235 0, .int 0 0, .ref 354, .int 237 0, .int 0 0, .ref 361, .int 239 0, .int 0 0, .ref 368, .int 243 0, .int 0 0, .ref 375, .int 246 0, .int 0 0, .ref 382, .int 249 0, .int 0 0, .ref 389, .int 251 0, .int 0 0, .ref 396, .int 264 0, .int 0 0, .ref 403, .int 270 0, .int 0 0, .ref 410, .int 290 0, .int 0 0, .ref 417, .int 292 0, .int 0 0, .ref 424, .int 305 0, .int 0 0, .ref 431, .int 317 0, .int 0 0, .ref 459, .int 425 0, .int 0 0, .ref 536, .int 432 0, .int 0 0, .ref 543, .int 441 0, .int 0 0, .ref 550, .int 468 0, .int 0 0, .ref 592, .int 473 0, .int 0 0, .ref 599, .int 478 0, .int 0 0, .ref 606, .int 485 0, .int 0 0, .ref 613, .int 487 0, .int 0 0, .ref 620, .int 495 0, .int 0 0, .ref 625]), #[]⟩ 627 1124 os)
noncomputable def sl12 : List Stmt := [stA 83, stA 84, stA 85, stA 86, stA 87, stA 88]
end Mine

open PySem PySem.W PySem.Calls PyProof.Rows
set_option Elab.async false
set_option maxRecDepth 100000
set_option linter.unusedVariables false
namespace Mine
theorem pre0 (w : World) (os : OsState) : topGo treeTable pw w 11 (some (.ref 6)) 12 ⟨boot_heap w.params, #[], boot_drawn, boot_toks, os⟩ (topStub pw) = some ((st0 w.params os).abs, ⟨denote treeTable cd0, cd0, ⟨0, 0, 0, 0⟩, [topFrame ⟨0, 0, 0, 0⟩]⟩) := by kernel_rfl
theorem blk0 (w : World) (os : OsState) : segRun treeTable pw w 11 (some (.ref 6)) 1 1 (st0 w.params os).abs (blockOf (behindTheImports pw) env0 cd0 ⟨0, 0, 0, 0⟩ [topFrame ⟨0, 0, 0, 0⟩]) = some (.next, (st0 w.params os).abs, cd0, ⟨0, 0, 0, 0⟩) := by kernel_rfl
theorem pc1 (w : World) (os : OsState) : segRunT treeTable pw w 11 (some (.ref 6)) 1 318 (st0 w.params os) (piecesOf sl1 env0 cd0 ⟨0, 0, 0, 0⟩ [topFrame ⟨0, 0, 0, 0⟩]) = some (.next, st1 w.params os, cd0, ⟨35, 0, 44, 16⟩) := by (try rw [Fast.te10110043849684766642, Fast.te14364793385576792824]); kernel_rfl
theorem pc2 (w : World) (os : OsState) : segRunT treeTable pw w 11 (some (.ref 6)) 1 420 (st1 w.params os) (piecesOf sl2 env0 cd0 ⟨35, 0, 44, 16⟩ [topFrame ⟨0, 0, 0, 0⟩]) = some (.next, st2 w.params os, cd0, ⟨45, 0, 105, 58⟩) := by (try rw [Fast.te10110043849684766642, Fast.te14364793385576792824]); kernel_rfl
theorem pc3 (w : World) (os : OsState) : segRunT treeTable pw w 11 (some (.ref 6)) 1 320 (st2 w.params os) (piecesOf sl3 env0 cd0 ⟨45, 0, 105, 58⟩ [topFrame ⟨0, 0, 0, 0⟩]) = some (.next, st3 w.params os, cd0, ⟨122, 0, 127, 24⟩) := by (try rw [Fast.te10110043849684766642, Fast.te14364793385576792824]); kernel_rfl
theorem pc4 (w : World) (os : OsState) : segRunT treeTable pw w 11 (some (.ref 6)) 1 413 (st3 w.params os) (piecesOf sl4 env0 cd0 ⟨122, 0, 127, 24⟩ [topFrame ⟨0, 0, 0, 0⟩]) = some (.next, st4 w.params os, cd0, ⟨130, 0, 133, 24⟩) := by (try rw [Fast.te10110043849684766642, Fast.te14364793385576792824]); kernel_rfl
theorem pc5 (w : World) (os : OsState) : segRunT treeTable pw w 11 (some (.ref 6)) 1 223 (st4 w.params os) (piecesOf sl5 env0 cd0 ⟨130, 0, 133, 24⟩ [topFrame ⟨0, 0, 0, 0⟩]) = some (.next, st5 w.params os, cd0, ⟨134, 0, 137, 24⟩) := by (try rw [Fast.te10110043849684766642, Fast.te14364793385576792824]); kernel_rfl
theorem pc6 (w : World) (os : OsState) : segRunT treeTable pw w 11 (some (.ref 6)) 1 409 (st5 w.params os) (piecesOf sl6 env0 cd0 ⟨134, 0, 137, 24⟩ [topFrame ⟨0, 0, 0, 0⟩]) = some (.next, st6 w.params os, cd0, ⟨171, 0, 174, 67⟩) := by (try rw [Fast.te10110043849684766642, Fast.te14364793385576792824]); kernel_rfl
theorem pc7 (w : World) (os : OsState) : segRunT treeTable pw w 11 (some (.ref 6)) 1 416 (st6 w.params os) (piecesOf sl7 env0 cd0 ⟨171, 0, 174, 67⟩ [topFrame ⟨0, 0, 0, 0⟩]) = some (.next, st7 w.params os, cd0, ⟨228, 0, 229, 57⟩) := by (try rw [Fast.te10110043849684766642, Fast.te14364793385576792824]); kernel_rfl
theorem pc8 (w : World) (os : OsState) : segRunT treeTable pw w 11 (some (.ref 6)) 1 418 (st7 w.params os) (piecesOf sl8 env0 cd0 ⟨228, 0, 229, 57⟩ [topFrame ⟨0, 0, 0, 0⟩]) = some (.next, st8 w.params os, cd0, ⟨301, 0, 301, 8⟩) := by (try rw [Fast.te10110043849684766642, Fast.te14364793385576792824]); kernel_rfl
theorem pc9 (w : World) (os : OsState) : segRunT treeTable pw w 11 (some (.ref 6)) 1 292 (st8 w.params os) (piecesOf sl9 env0 cd0 ⟨301, 0, 301, 8⟩ [topFrame ⟨0, 0, 0, 0⟩]) = some (.next, st9 w.params os, cd0, ⟨305, 0, 316, 80⟩) := by (try rw [Fast.te10110043849684766642, Fast.te14364793385576792824]); kernel_rfl
theorem pc10 (w : World) (os : OsState) : segRunT treeTable pw w 11 (some (.ref 6)) 1 501 (st9 w.params os) (piecesOf sl10 env0 cd0 ⟨305, 0, 316, 80⟩ [topFrame ⟨0, 0, 0, 0⟩]) = some (.next, st10 w.params os, cd0, ⟨317, 0, 424, 19⟩) := by (try rw [Fast.te10110043849684766642, Fast.te14364793385576792824]); kernel_rfl
theorem pc11 (w : World) (os : OsState) : segRunT treeTable pw w 11 (some (.ref 6)) 1 410 (st10 w.params os) (piecesOf sl11 env0 cd0 ⟨317, 0, 424, 19⟩ [topFrame ⟨0, 0, 0, 0⟩]) = some (.next, st11 w.params os, cd0, ⟨467, 0, 467, 8⟩) := by (try rw [Fast.te10110043849684766642, Fast.te14364793385576792824]); kernel_rfl
theorem pc12 (w : World) (os : OsState) : segRunT treeTable pw w 11 (some (.ref 6)) 1 188 (st11 w.params os) (piecesOf sl12 env0 cd0 ⟨467, 0, 467, 8⟩ [topFrame ⟨0, 0, 0, 0⟩]) = some (.next, st12 w.params os, cd0, ⟨495, 0, 524, 16⟩) := by (try rw [Fast.te10110043849684766642, Fast.te14364793385576792824]); kernel_rfl
theorem body0 : behindTheImports pw = sl1 ++ (sl2 ++ (sl3 ++ (sl4 ++ (sl5 ++ (sl6 ++ (sl7 ++ (sl8 ++ (sl9 ++ (sl10 ++ (sl11 ++ (sl12 ++ []))))))))))) := by kernel_rfl
noncomputable def hpF (P : Params) : Heap := ⟨(hpL P ⟨.none, none, (.dict #[de P "type.__subclasses__.Exception.0" 407 (.int 132 0), de P "type.__subclasses__.Exception.n" 408 (.int 1 0)] 2), #[]⟩ (o3' P (.str "law_xw0310_01" 1065) 90 91) ⟨.none, none, (.fields #[.int 24 0, .int 0 0, .ref 22, .int 33 0, .int 0 0, .ref 29, .int 35 0, .int 0 0, .ref 36, .int 45 0, .int 0 0, .ref 43, .int 106 0, .int 0 0, .ref 104, .int 116 0, .int 0 0, .ref 111, .int 122 0, .int 0 0, .ref 119, .int 128 0, .int 0 0, .ref 141, .int 130 0, .int 0 0, .ref 155, .int 134 0, .int 0 0, .ref 176, .int 138 0, .int 0 0, .ref 197, .int 144 0, .int 0 0, .ref 218, .int 146 0, .int 0 0, .ref 225, .int 148 0, .int 0 0, .ref 232, .int 161 0, .int 0 0, .ref 239, .int 167 0, .int 0 0, .ref 246, .int 171 0, .int 0 0, .ref 253, .int 175 0, .int 0 0, .ref 260, .int 184 0, .int 0 0, .ref 270, .int 191 0, .int 0 0, .ref 277, .int 196 0, .int 0 0, .ref 284, .int 205 0, .int 0 0, .ref 291, .int 207 0, .int 0 0, .ref 298, .int 219 0, .int 0 0, .ref 305, .int 222 0, .int 0 0, .ref 312, .int 224 0, .int 0 0, .ref 319, .int 226 0, .int 0 0, .ref 326, .int 228 0, .int 0 0, .ref 333, .int 230 0, .int 0 0, .ref 340, .int 233 0, .int 0 0, .ref 347, .int 235 0, .int 0 0, .ref 354, .int 237 0, .int 0 0, .ref 361, .int 239 0, .int 0 0, .ref 368, .int 243 0, .int 0 0, .ref 375, .int 246 0, .int 0 0, .ref 382, .int 249 0, .int 0 0, .ref 389, .int 251 0, .int 0 0, .ref 396, .int 264 0, .int 0 0, .ref 403, .int 270 0, .int 0 0, .ref 410, .int 290 0, .int 0 0, .ref 417, .int 292 0, .int 0 0, .ref 424, .int 305 0, .int 0 0, .ref 431, .int 317 0, .int 0 0, .ref 459, .int 425 0, .int 0 0, .ref 536, .int 432 0, .int 0 0, .ref 543, .int 441 0, .int 0 0, .ref 550, .int 468 0, .int 0 0, .ref 592, .int 473 0, .int 0 0, .ref 599, .int 478 0, .int 0 0, .ref 606, .int 485 0, .int 0 0, .ref 613, .int 487 0, .int 0 0, .ref 620, .int 495 0, .int 0 0, .ref 625]), #[]⟩ 614).toArray, (boot_heap P).life⟩
theorem fin0 (w : World) (os : OsState) : topRun treeTable pw w 11 (some (.ref 6)) 2 (st12 w.params os).abs ⟨doneF .next, cd0, ⟨495, 0, 524, 16⟩, [topFrame ⟨0, 0, 0, 0⟩]⟩ = some ⟨hpF w.params, #[], boot_drawn, 1124, os⟩ := by kernel_rfl
theorem rest0 (w : World) (os : OsState) : topRun treeTable pw w 11 (some (.ref 6)) (318 + (420 + (320 + (413 + (223 + (409 + (416 + (418 + (292 + (501 + (410 + (188 + 2)))))))))))) (st0 w.params os).abs (restOf (sl1 ++ (sl2 ++ (sl3 ++ (sl4 ++ (sl5 ++ (sl6 ++ (sl7 ++ (sl8 ++ (sl9 ++ (sl10 ++ (sl11 ++ (sl12 ++ [])))))))))))) env0 cd0 ⟨0, 0, 0, 0⟩ [topFrame ⟨0, 0, 0, 0⟩]) = some ⟨hpF w.params, #[], boot_drawn, 1124, os⟩ :=
  piece_app (segRun_of (pc1 w os)) (piece_app (segRun_of (pc2 w os)) (piece_app (segRun_of (pc3 w os)) (piece_app (segRun_of (pc4 w os)) (piece_app (segRun_of (pc5 w os)) (piece_app (segRun_of (pc6 w os)) (piece_app (segRun_of (pc7 w os)) (piece_app (segRun_of (pc8 w os)) (piece_app (segRun_of (pc9 w os)) (piece_app (segRun_of (pc10 w os)) (piece_app (segRun_of (pc11 w os)) (piece_app (segRun_of (pc12 w os)) (piece_nil (fin0 w os)))))))))))))
theorem ran (w : World) (os : OsState) : topRun treeTable pw w 11 (some (.ref 6)) (12 + (1 + (318 + (420 + (320 + (413 + (223 + (409 + (416 + (418 + (292 + (501 + (410 + (188 + 2)))))))))))))) ⟨boot_heap w.params, #[], boot_drawn, boot_toks, os⟩ (topStub pw) = some ⟨hpF w.params, #[], boot_drawn, 1124, os⟩ :=
  go_top (pre0 w os) (piece_block (blk0 w os) (Eq.mpr (congrArg (fun l => topRun treeTable pw w 11 (some (.ref 6)) (318 + (420 + (320 + (413 + (223 + (409 + (416 + (418 + (292 + (501 + (410 + (188 + 2)))))))))))) (st0 w.params os).abs (restOf l env0 cd0 ⟨0, 0, 0, 0⟩ [topFrame ⟨0, 0, 0, 0⟩]) = some ⟨hpF w.params, #[], boot_drawn, 1124, os⟩) body0) (rest0 w os)))
end Mine

open PySem PySem.W PySem.Calls PyProof.Rows
set_option Elab.async false
set_option maxRecDepth 100000
set_option linter.unusedVariables false
namespace Mine
noncomputable def qv : Program := { pw with main := { pw.main with body := [stA 1, stA 2, stA 3, stA 4, stA 5, stA 6, stA 7, stA 8, stA 9, stA 10, stA 11, stA 12, stA 13, stA 14, stA 15, stA 16, stA 17, stA 18, stA 19, stA 20, stA 21, stA 22, stA 23, stA 24, stA 25, stA 26, stA 27, stA 28, stA 30, stA 31, stA 32, stA 33, stA 34, stA 35, stA 36, stA 37, stA 38, stA 39, stA 40, stA 41, stA 43, stA 44, stA 45, stA 47, stA 48, stA 49, stA 50, stA 52, stA 53, stA 54, stA 55, stA 56, stA 57, stA 58, stA 59, stA 60, stA 61, stA 62, stA 63, stA 64, stA 65, stA 66, stA 67, stA 68, stA 69, stA 70, stA 71, stA 73, stA 74, stA 75, stA 76, stA 77, stA 78, stA 79, stA 81, stA 83, stA 84, stA 85, stA 86, stA 87, stA 88] } }
noncomputable abbrev rwW : RowW := OpenRow.toRowW (OpenLaw.row PySem.Challenge.rw_xw0310_01)
theorem kfa : ∀ P, KA = (KF P).map (·.1) := fun _ => by kernel_rfl
noncomputable abbrev hook : Hook := kHook KF KA kfa
noncomputable def lse : List Str := ["SnobolError", "plain_count"]
noncomputable def xt (s : Shared) : Bool := xlAt qv [] s && recOk (RowW.records rwW) s
noncomputable def shF (w : World) (os : OsState) : Shared := ⟨hpF w.params, #[], boot_drawn, 1124, os⟩
theorem opens : opening pw = plainProg pw.main.scope.names := by kernel_rfl
theorem fences : ∀ s, fenceModules? pw s = some s := fun _ => by kernel_rfl
theorem sizes (w : World) : ((boot_heap w.params).isNs mainGlobals && (#[] : Array GenState).size == 0, (boot_heap w.params).objs.size, (boot_heap w.params).nsMap mainGlobals "__annotations__") = (true, 11, some (.ref 6)) := by kernel_rfl
theorem lookA (w : World) (os : OsState) : (staticsOk (importedModules pw.main.body) (boot_heap w.params) (hpF w.params) && namesBound pw (hpF w.params) && gensDone (shF w os) && laidKept (boot_heap w.params) (hpF w.params)) = true := by kernel_rfl
theorem lookB1 (w : World) (os : OsState) : seen ((recsOf qv).map (·.name)) (ownsOf qv) [] { shF w os with gens := #[] } = expectedOf qv := by kernel_rfl
theorem lookB2 (w : World) (os : OsState) : (shF w os).heap.bltView = bltViewBooted := by kernel_rfl
theorem lookB3 (w : World) (os : OsState) : ((shF w os).heap.keysOk (looseW qv lse) ((recsOf qv).map (·.name)) ((litsOf qv).map (·.1)) ((clssOf qv (looseW qv lse)).map (·.name)) && (shF w os).heap.accountedOkI (importedModules pw.main.body) && (shF w os).heap.isNs mainGlobals && (shF w os).heap.isNs builtinsNs && tablesOk qv (shF w os).heap && xt (shF w os) && (if true = true then (shF w os).gens.size == 0 else !leftWithCleanup (shF w os).gens)) = true := by kernel_rfl
theorem lookB4 (w : World) (os : OsState) : tabsOk qv (shF w os) = true := by kernel_rfl
theorem lookB5 (w : World) (os : OsState) : pinSeenD qv (drecsOf qv) (shF w os) = pinGoodD (drecsOf qv) := by kernel_rfl
theorem lookB6 (w : World) (os : OsState) : plainSeenE qv (looseW qv lse) (shF w os) = plainGoodE qv (looseW qv lse) := by kernel_rfl
theorem lookB7 (w : World) (os : OsState) : plainSeenD qv lse (shF w os) = plainGoodD qv lse := by kernel_rfl
theorem lookB8 (w : World) (os : OsState) : wideSeen qv (shF w os) = wideGood qv := by kernel_rfl
theorem lookB9 (w : World) (os : OsState) : clsSeenW qv lse (shF w os) = clsGoodW qv lse := by kernel_rfl
theorem lookB (w : World) (os : OsState) : openSeen qv lse (importedModules pw.main.body) xt true (shF w os) = openGood qv lse := by
  unfold openSeen openGood
  with_reducible exact looks_pair (lookB1 w os) (looks_pair (lookB2 w os) (looks_pair (lookB3 w os) (looks_pair (lookB4 w os) (looks_pair (lookB5 w os) (looks_pair (lookB6 w os) (looks_pair (lookB7 w os) (looks_pair (lookB8 w os) (lookB9 w os))))))))
theorem lookC (w : World) (os : OsState) : Hook.obs hook (shF w os) = Hook.val hook w := by kernel_rfl
theorem left : LeftO pw qv lse xt (Hook.obs hook) (Hook.val hook) 4500 :=
  LeftO.of_pieces (boot_open opens (by decide) fences) sizes ran (by decide +kernel) fun w => funext fun os => Prod.ext (lookA w os) (Prod.ext (lookB w os) (lookC w os))
set_option maxHeartbeats 0 in
theorem saids : OpenLaw.wellSaid PySem.Challenge.rw_xw0310_01 = true := by
  unfold OpenLaw.wellSaid
  with_reducible repeat' refine look_both ?_ ?_
  · unfold OpenRow.wellSaid
    with_reducible repeat' refine look_both ?_ ?_
    · unfold OpenRow.partSaid looksOpen
      with_reducible repeat' refine look_both ?_ ?_
      all_goals decide +kernel
    all_goals decide +kernel
  all_goals decide +kernel
end Mine

open PySem PySem.W PySem.Calls PyProof.Rows
set_option Elab.async false
set_option maxRecDepth 100000
namespace Mine
/-! ## the program's own parts -/
noncomputable abbrev KK (g : G) : Frag := KF g.w.params
noncomputable def noFd : FuncData := { name := "", qualname := "", params := { posonlyargs := [], args := [], vararg := none, kwonlyargs := [], kw_defaults := [], kwarg := none, defaults := [] }, body := .stmts [], scope := { kind := .function, names := [], isGenerator := false, isCoroutine := false }, globals := 0, closure := [], defaults := .none, kwdefaults := .none }
noncomputable def fdG (K : Frag) (f : Nat) : FuncData := (fdAt K f).getD noFd
noncomputable def okL (fi : FI) (x : Str) (i : Nat) : Bool := fi.nm[i]? == some x && !(x == ("__debug__" : Str))
noncomputable def gStr (K : Frag) (fi : FI) (x : Str) (l : List Nat) : Bool := (match nsIn K mainGlobals x with | some (some (.str y _)) => y == strV l | _ => false) && Nat.ble l.length 1000 && fi.sc.names.lookup x == some .globalImplicit && !(x == ("__debug__" : Str))
noncomputable def gInt (K : Frag) (fi : FI) (x : Str) (i : Int) : Bool := (match nsIn K mainGlobals x with | some (some (.int y _)) => eqB y i | _ => false) && fi.sc.names.lookup x == some .globalImplicit && !(x == ("__debug__" : Str))
noncomputable def callOk (K : Frag) (fi : FI) (x : Str) (f : Nat) : Bool := nsIn K mainGlobals x == some (some (.ref f)) && fi.sc.names.lookup x == some .globalImplicit && !(x == ("__debug__" : Str)) && keepIn K (.ref f)
section
variable {g : G} {d : Nat} {fi : FI} {K : Frag}
theorem se_l {i : Nat} {x : Str} {pos : Pos} (h : okL fi x i = true) : SE g d fi (.Name x pos) (xLoc i) := by
  unfold okL at h
  simp only [Bool.and_eq_true, beq_iff_eq, Bool.not_eq_true'] at h
  exact se_loc h.1 h.2
theorem se_gs {x : Str} {pos : Pos} {l : List Nat} (C : Top0 g K) (h : gStr K fi x l = true) : SE g d fi (.Name x pos) (xLit (.str l)) := by
  unfold gStr at h
  simp only [Bool.and_eq_true, beq_iff_eq, Bool.not_eq_true'] at h
  obtain ⟨⟨⟨h1, h2⟩, h3⟩, h4⟩ := h
  split at h1
  · rename_i y t e
    have : y = strV l := by simpa using h1
    subst this
    exact se_glob C e (fun μ => ⟨⟨t, rfl⟩, Nat.le_of_ble_eq_true h2⟩) h3 h4
  · cases h1
theorem se_gi {x : Str} {pos : Pos} {i : Int} (C : Top0 g K) (h : gInt K fi x i = true) : SE g d fi (.Name x pos) (xLit (.int i)) := by
  unfold gInt at h
  simp only [Bool.and_eq_true, beq_iff_eq, Bool.not_eq_true'] at h
  obtain ⟨⟨h1, h3⟩, h4⟩ := h
  split at h1
  · rename_i y t e
    rw [eqB_eq] at h1
    have : y = i := by simpa using h1
    subst this
    exact se_glob C e (fun μ => ⟨t, rfl⟩) h3 h4
  · cases h1
theorem se_s {x : Str} {l : List Nat} {k' : Nat} {pos : Pos} (e : x = strV l) (hl : Nat.ble l.length 1000 = true) : SE g d fi (.Constant (.str x) k' pos) (xLit (.str l)) := se_str e (Nat.le_of_ble_eq_true hl)
theorem callOk_of {x : Str} {f : Nat} (h : callOk K fi x f = true) : nsIn K mainGlobals x = some (some (.ref f)) ∧ fi.sc.names.lookup x = some .globalImplicit ∧ (x == ("__debug__" : Str)) = false ∧ keepIn K (.ref f) = true := by
  unfold callOk at h
  simp only [Bool.and_eq_true, beq_iff_eq, Bool.not_eq_true'] at h
  exact ⟨h.1.1.1, h.1.1.2, h.1.2, h.2⟩
theorem se_c {x : Str} {np pos : Pos} {f n d' : Nat} {m : Mine.S} {e : Expr} {rest : List Expr} {ms : Mine.Xs} (C : Top0 g K) (h : callOk K fi x f = true) (hF : FC g d' f n m) (hd : Nat.ble d' d = true)
    (hs : SEs g d fi (e :: rest) ms) (hn : (e :: rest).length = n) (hp : Plain (e :: rest) := by k_dflt (intro _ _; exact ⟨rfl, rfl⟩)) : SE g d fi (.Call (.Name x np) (e :: rest) [] pos) (xCall m ms) :=
  let ⟨h1, h2, h3, h4⟩ := callOk_of h; se_call C h1 h2 h3 h4 hF (Nat.le_of_ble_eq_true hd) hs hn hp
noncomputable def newOk (K : Frag) (fi : FI) (x : Str) (c f : Nat) : Bool := nsIn K mainGlobals x == some (some (.ref c)) && fi.sc.names.lookup x == some .globalImplicit && !(x == ("__debug__" : Str)) && nOk K c f
theorem newOk_of {x : Str} {c f : Nat} (h : newOk K fi x c f = true) : nsIn K mainGlobals x = some (some (.ref c)) ∧ fi.sc.names.lookup x = some .globalImplicit ∧ (x == ("__debug__" : Str)) = false ∧ nOk K c f = true := by
  unfold newOk at h
  simp only [Bool.and_eq_true, beq_iff_eq, Bool.not_eq_true'] at h
  exact ⟨h.1.1.1, h.1.1.2, h.1.2, h.2⟩
theorem se_n {x : Str} {np pos : Pos} {c f n d' : Nat} {m : Mine.S} {e : Expr} {rest : List Expr} {ms : Mine.Xs} (C : Top0 g K) (h : newOk K fi x c f = true) (hF : FC g d' f n m) (hd : Nat.blt d' d = true)
    (hs : SEs g d fi (e :: rest) ms) (hn : (e :: rest).length + 1 = n) (hp : Plain (e :: rest) := by k_dflt (intro _ _; exact ⟨rfl, rfl⟩)) : SE g d fi (.Call (.Name x np) (e :: rest) [] pos) (xNew c m ms) :=
  let ⟨h1, h2, h3, h4⟩ := newOk_of h; se_new C h1 h2 h3 h4 hF (Nat.le_of_ble_eq_true hd) hs hn hp
theorem se_n0 {x : Str} {np pos : Pos} {c f d' : Nat} {m : Mine.S} (C : Top0 g K) (h : newOk K fi x c f = true) (hF : FC g d' f 1 m) (hd : Nat.blt d' d = true) : SE g d fi (.Call (.Name x np) [] [] pos) (xNew c m yNil) :=
  let ⟨h1, h2, h3, h4⟩ := newOk_of h; se_new0 C h1 h2 h3 h4 hF (Nat.le_of_ble_eq_true hd)
noncomputable def bOk (K : Frag) (fi : FI) (x : Str) : Bool := nsIn K mainGlobals x == some none && fi.sc.names.lookup x == some .globalImplicit
theorem bn {x : Str} (h : bOk K fi x = true) : BName K fi x := by
  unfold bOk at h
  simpa using h
theorem sl_a {e : Expr} {me : Mine.X} {mr : Mine.S} {rest : List Stmt} {pos px : Pos} {i : Nat} {x : Str} (h : okN fi x i = true) (he : SE g d fi e me) (hr : SL g d fi rest mr) (hs : ∀ env, swapsWith e (some (.Name x px)) pos.line env = pure false := by k_dflt (intro _; rfl)) :
    SL g d fi (.Assign [.Name x px] e pos :: rest) (sAsg i me mr) := sl_asg he hr (okN_of h).1 (okN_of h).2 hs
theorem sl_asgT2 {e : Expr} {me : Mine.X} {mr : Mine.S} {rest : List Stmt} {pos px : Pos} {k' : Nat} {x1 x2 : Str} {p1 p2 : Pos} {is : List Nat} (hk : okT fi [x1, x2] is = true) (he : SE g d fi e me) (hr : SL g d fi rest mr) (hs : ∀ env, swapsWithSole [.Tuple [.Name x1 p1, .Name x2 p2] k' px] e pos.line env = pure false) (hw : ∀ env, env.scope = fi.sc → swappedStores [.Tuple [.Name x1 p1, .Name x2 p2] k' px] e env = pure none) :
    SL g d fi (.Assign [.Tuple [.Name x1 p1, .Name x2 p2] k' px] e pos :: rest) (sAsgT is me mr) := sl_asgT (xs := [(x1, p1), (x2, p2)]) hk he hr hs hw
theorem sl_asgT3 {e : Expr} {me : Mine.X} {mr : Mine.S} {rest : List Stmt} {pos px : Pos} {k' : Nat} {x1 x2 x3 : Str} {p1 p2 p3 : Pos} {is : List Nat} (hk : okT fi [x1, x2, x3] is = true) (he : SE g d fi e me) (hr : SL g d fi rest mr) (hs : ∀ env, swapsWithSole [.Tuple [.Name x1 p1, .Name x2 p2, .Name x3 p3] k' px] e pos.line env = pure false) (hw : ∀ env, env.scope = fi.sc → swappedStores [.Tuple [.Name x1 p1, .Name x2 p2, .Name x3 p3] k' px] e env = pure none) :
    SL g d fi (.Assign [.Tuple [.Name x1 p1, .Name x2 p2, .Name x3 p3] k' px] e pos :: rest) (sAsgT is me mr) := sl_asgT (xs := [(x1, p1), (x2, p2), (x3, p3)]) hk he hr hs hw
theorem sl_asgR2 {e : Expr} {me : Mine.X} {mr : Mine.S} {rest : List Stmt} {pos px : Pos} {k' : Nat} {x1 x2 : Str} {p1 p2 : Pos} {is : List Nat} (hk : okT fi [x2, x1] is = true) (he : SE g d fi e me) (hr : SL g d fi rest mr) (hs : ∀ env, swapsWithSole [.Tuple [.Name x1 p1, .Name x2 p2] k' px] e pos.line env = pure false) (hw : ∀ env, env.scope = fi.sc → swappedStores [.Tuple [.Name x1 p1, .Name x2 p2] k' px] e env = pure (some [x1, x2])) :
    SL g d fi (.Assign [.Tuple [.Name x1 p1, .Name x2 p2] k' px] e pos :: rest) (sAsgR is me mr) := sl_asgR (xs := [(x1, p1), (x2, p2)]) hk he hr hs hw
noncomputable def tupIn (K : Frag) (fi : FI) (x : Str) (l : List (List Nat)) : Bool := (match nsIn K mainGlobals x with
  | some (some (.ref c)) => (match K.lookup c with
    | some ⟨.type t, _, .seq vs _, _⟩ => t == "tuple" && (vs.toList.map fun v => match v with | .str y _ => some y | _ => none) == l.map fun y => some (strV y)
    | _ => false)
  | _ => false) && fi.sc.names.lookup x == some .globalImplicit && !(x == ("__debug__" : Str))
theorem strsAre_of {l : List Str} : ∀ {vs : List Value}, (vs.map fun v => match v with | .str y _ => some y | _ => none) = l.map some → StrsAre vs l := by
  induction l with
  | nil => intro vs h; cases vs with | nil => exact .nil | cons v vs => simp at h
  | cons y l ih =>
    intro vs h
    cases vs with
    | nil => simp at h
    | cons v vs =>
      simp only [List.map_cons, List.cons.injEq] at h
      obtain ⟨h1, h2⟩ := h
      cases v <;> simp at h1
      subst h1
      exact .cons _ _ (ih h2)
theorem sc_inG {a : Expr} {ma : Mine.X} {x : Str} {p pos : Pos} {l : List (List Nat)} (C : Top0 g K) (h : tupIn K fi x l = true) (ha : SE g d fi a ma) : SC g d fi (.Compare a [.In] [.Name x p] pos) (tInT ma l) := by
  unfold tupIn at h
  simp only [Bool.and_eq_true, beq_iff_eq, Bool.not_eq_true'] at h
  obtain ⟨⟨h1, h3⟩, h4⟩ := h
  split at h1
  · rename_i c e
    split at h1
    · rename_i t dd vs n sl ho
      simp only [Bool.and_eq_true, beq_iff_eq] at h1
      obtain ⟨rfl, h5⟩ := h1
      exact sc_inTg (vs := vs.toList) (n := n) C e h3 ho rfl rfl (strsAre_of (by rw [h5, List.map_map]; rfl)) ha h4
    · cases h1
  · cases h1
theorem len0 {P : List Value → Prop} (h : P []) : ∀ vs : List Value, vs.length = 0 → P vs | [], _ => h
theorem len1 {P : List Value → Prop} (h : ∀ a, P [a]) : ∀ vs : List Value, vs.length = 1 → P vs | [a], _ => h a
theorem len2 {P : List Value → Prop} (h : ∀ a b, P [a, b]) : ∀ vs : List Value, vs.length = 2 → P vs | [a, b], _ => h a b
theorem len3 {P : List Value → Prop} (h : ∀ a b c, P [a, b, c]) : ∀ vs : List Value, vs.length = 3 → P vs | [a, b, c], _ => h a b c
theorem len4 {P : List Value → Prop} (h : ∀ a b c d, P [a, b, c, d]) : ∀ vs : List Value, vs.length = 4 → P vs | [a, b, c, d], _ => h a b c d
theorem len7 {P : List Value → Prop} (h : ∀ a b c d e f g, P [a, b, c, d, e, f, g]) : ∀ vs : List Value, vs.length = 7 → P vs | [a, b, c, d, e, f, g], _ => h a b c d e f g
end
noncomputable def code0 : O1 := (.node [.str [115, 112, 108, 105, 116], .int (.ofNat 2)] (.node [.str [106, 117, 109, 112], .int (.ofNat 6)] (.node [.str [111, 110, 101], .str [99, 104, 97, 114, 115], .str [48]] (.node [.str [111, 110, 101], .str [99, 104, 97, 114, 115], .str [49]] (.node [.str [115, 112, 108, 105, 116], .int (.ofNat 65)] (.node [.str [106, 117, 109, 112], .int (.ofNat 57)] (.node [.str [111, 110, 101], .str [99, 104, 97, 114, 115], .str [49, 49]] .nil .nil) (.node [.str [115, 112, 108, 105, 116], .int (.ofNat 97)] .nil .nil)) (.node [.str [106, 117, 109, 112], .int (.ofNat 42)] (.node [.str [111, 110, 101], .str [99, 104, 97, 114, 115], .str [48, 49]] .nil .nil) .nil)) (.node [.str [115, 112, 108, 105, 116], .int (.ofNat 32)] (.node [.str [111, 110, 101], .str [99, 104, 97, 114, 115], .str [48, 48]] (.node [.str [103, 97, 105, 110]] .nil .nil) .nil) (.node [.str [103, 97, 105, 110]] (.node [.str [106, 117, 109, 112], .int (.ofNat 82)] .nil .nil) .nil))) (.node [.str [106, 117, 109, 112], .int (.ofNat 95)] (.node [.str [109, 97, 114, 107]] (.node [.str [109, 97, 114, 107]] (.node [.str [115, 112, 108, 105, 116], .int (.ofNat 69)] .nil .nil) (.node [.str [103, 97, 105, 110]] .nil .nil)) (.node [.str [115, 112, 108, 105, 116], .int (.ofNat 53)] (.node [.str [106, 117, 109, 112], .int (.ofNat 88)] .nil .nil) .nil)) (.node [.str [109, 97, 114, 107]] (.node [.str [106, 117, 109, 112], .int (.ofNat 48)] (.node [.str [109, 97, 114, 107]] .nil .nil) .nil) (.node [.str [109, 97, 114, 107]] (.node [.str [111, 110, 101], .str [99, 104, 97, 114, 115], .str [49, 48]] .nil .nil) .nil)))) (.node [.str [106, 117, 109, 112], .int (.ofNat 0)] (.node [.str [115, 112, 108, 105, 116], .int (.ofNat 12)] (.node [.str [115, 112, 108, 105, 116], .int (.ofNat 19)] (.node [.str [115, 112, 108, 105, 116], .int (.ofNat 35)] (.node [.str [115, 112, 108, 105, 116], .int (.ofNat 81)] .nil .nil) (.node [.str [109, 97, 114, 107]] .nil .nil)) (.node [.str [106, 117, 109, 112], .int (.ofNat 57)] (.node [.str [111, 110, 101], .str [99, 104, 97, 114, 115], .str [49, 48]] .nil .nil) .nil)) (.node [.str [115, 112, 108, 105, 116], .int (.ofNat 27)] (.node [.str [115, 112, 108, 105, 116], .int (.ofNat 50)] (.node [.str [115, 112, 108, 105, 116], .int (.ofNat 75)] .nil .nil) .nil) (.node [.str [115, 112, 108, 105, 116], .int (.ofNat 59)] (.node [.str [106, 117, 109, 112], .int (.ofNat 94)] .nil .nil) .nil))) (.node [.str [111, 110, 101], .str [99, 104, 97, 114, 115], .str [49, 49, 48]] (.node [.str [103, 97, 105, 110]] (.node [.str [103, 97, 105, 110]] (.node [.str [109, 97, 114, 107]] .nil .nil) (.node [.str [111, 110, 101], .str [114, 112, 111, 115], .int (.ofNat 0)] .nil .nil)) (.node [.str [109, 97, 114, 107]] (.node [.str [111, 110, 101], .str [99, 104, 97, 114, 115], .str [49, 49]] .nil .nil) .nil)) (.node [.str [103, 97, 105, 110]] (.node [.str [111, 110, 101], .str [99, 104, 97, 114, 115], .str [49, 49]] (.node [.str [103, 97, 105, 110]] .nil .nil) .nil) (.node [.str [103, 97, 105, 110]] (.node [.str [106, 117, 109, 112], .int (.ofNat 88)] .nil .nil) .nil))))) (.node [.str [109, 97, 114, 107]] (.node [.str [103, 97, 105, 110]] (.node [.str [106, 117, 109, 112], .int (.ofNat 95)] (.node [.str [111, 110, 101], .str [99, 104, 97, 114, 115], .str [49, 49]] (.node [.str [115, 112, 108, 105, 116], .int (.ofNat 41)] (.node [.str [106, 117, 109, 112], .int (.ofNat 95)] .nil .nil) (.node [.str [106, 117, 109, 112], .int (.ofNat 101)] .nil .nil)) (.node [.str [111, 110, 101], .str [99, 104, 97, 114, 115], .str [49, 48, 49, 49]] (.node [.str [106, 117, 109, 112], .int (.ofNat 95)] .nil .nil) .nil)) (.node [.str [111, 110, 101], .str [99, 104, 97, 114, 115], .str [48, 48]] (.node [.str [106, 117, 109, 112], .int (.ofNat 57)] (.node [.str [106, 117, 109, 112], .int (.ofNat 67)] .nil .nil) .nil) (.node [.str [106, 117, 109, 112], .int (.ofNat 51)] (.node [.str [115, 112, 108, 105, 116], .int (.ofNat 90)] .nil .nil) .nil))) (.node [.str [115, 112, 108, 105, 116], .int (.ofNat 15)] (.node [.str [111, 110, 101], .str [99, 104, 97, 114, 115], .str [48, 49]] (.node [.str [111, 110, 101], .str [99, 104, 97, 114, 115], .str [49, 49]] (.node [.str [106, 117, 109, 112], .int (.ofNat 73)] .nil .nil) (.node [.str [106, 117, 109, 112], .int (.ofNat 95)] .nil .nil)) (.node [.str [106, 117, 109, 112], .int (.ofNat 57)] (.node [.str [109, 97, 114, 107]] .nil .nil) .nil)) (.node [.str [111, 110, 101], .str [99, 104, 97, 114, 115], .str [49, 49]] (.node [.str [109, 97, 114, 107]] (.node [.str [111, 110, 101], .str [99, 104, 97, 114, 115], .str [49, 49]] .nil .nil) .nil) (.node [.str [111, 110, 101], .str [99, 104, 97, 114, 115], .str [49, 48]] (.node [.str [103, 97, 105, 110]] .nil .nil) .nil)))) (.node [.str [115, 112, 108, 105, 116], .int (.ofNat 9)] (.node [.str [111, 110, 101], .str [99, 104, 97, 114, 115], .str [48, 49, 49]] (.node [.str [106, 117, 109, 112], .int (.ofNat 23)] (.node [.str [106, 117, 109, 112], .int (.ofNat 39)] (.node [.str [111, 110, 101], .str [99, 104, 97, 114, 115], .str [49, 49]] .nil .nil) (.node [.str [111, 110, 101], .str [99, 104, 97, 114, 115], .str [48]] .nil .nil)) (.node [.str [111, 110, 101], .str [99, 104, 97, 114, 115], .str [49, 49, 48, 49]] (.node [.str [115, 112, 108, 105, 116], .int (.ofNat 84)] .nil .nil) .nil)) (.node [.str [106, 117, 109, 112], .int (.ofNat 57)] (.node [.str [115, 112, 108, 105, 116], .int (.ofNat 44)] (.node [.str [106, 117, 109, 112], .int (.ofNat 79)] .nil .nil) .nil) (.node [.str [106, 117, 109, 112], .int (.ofNat 63)] (.node [.str [109, 97, 114, 107]] .nil .nil) .nil))) (.node [.str [106, 117, 109, 112], .int (.ofNat 95)] (.node [.str [106, 117, 109, 112], .int (.ofNat 17)] (.node [.str [106, 117, 109, 112], .int (.ofNat 33)] (.node [.str [111, 110, 101], .str [99, 104, 97, 114, 115], .str [48, 49]] .nil .nil) (.node [.str [100, 111, 110, 101]] .nil .nil)) (.node [.str [111, 110, 101], .str [99, 104, 97, 114, 115], .str [49, 49]] (.node [.str [103, 97, 105, 110]] .nil .nil) .nil)) (.node [.str [106, 117, 109, 112], .int (.ofNat 25)] (.node [.str [103, 97, 105, 110]] (.node [.str [106, 117, 109, 112], .int (.ofNat 73)] .nil .nil) .nil) (.node [.str [106, 117, 109, 112], .int (.ofNat 57)] (.node [.str [111, 110, 101], .str [99, 104, 97, 114, 115], .str [49, 49]] .nil .nil) .nil))))))
noncomputable def mets : List (List Nat × Bool) := [([48, 48, 48, 49], true), ([48, 48, 49, 48], true), ([48, 48, 49, 49], true), ([48, 49, 48, 48], true), ([48, 49, 48, 49], false), ([48, 49, 49, 48], true), ([48, 49, 49, 49], false), ([49, 48, 48, 48], true), ([49, 48, 48, 49], false), ([49, 48, 49, 48], false), ([49, 48, 49, 49], true), ([49, 49, 48, 48], true), ([49, 49, 48, 49], true), ([49, 49, 49, 48], false), ([49, 49, 49, 49], false), ([48, 48, 48, 48, 49], true), ([48, 48, 48, 49, 48], true), ([48, 48, 48, 49, 49], true), ([48, 48, 49, 48, 48], true), ([48, 48, 49, 48, 49], false), ([48, 48, 49, 49, 48], true), ([48, 48, 49, 49, 49], false), ([48, 49, 48, 48, 48], true), ([48, 49, 48, 48, 49], false), ([48, 49, 48, 49, 48], false), ([48, 49, 48, 49, 49], true), ([48, 49, 49, 48, 48], true), ([48, 49, 49, 48, 49], true), ([48, 49, 49, 49, 48], false), ([48, 49, 49, 49, 49], false), ([49, 48, 48, 48, 48], true), ([49, 48, 48, 48, 49], false), ([49, 48, 48, 49, 48], false), ([49, 48, 48, 49, 49], false), ([49, 48, 49, 48, 48], false), ([49, 48, 49, 48, 49], false), ([49, 48, 49, 49, 48], true), ([49, 48, 49, 49, 49], false), ([49, 49, 48, 48, 48], true), ([49, 49, 48, 48, 49], false), ([49, 49, 48, 49, 48], true), ([49, 49, 48, 49, 49], false), ([49, 49, 49, 48, 48], false), ([49, 49, 49, 48, 49], false), ([49, 49, 49, 49, 48], false), ([49, 49, 49, 49, 49], false), ([48, 48, 48, 48, 48, 49], true), ([48, 48, 48, 48, 49, 48], true), ([48, 48, 48, 48, 49, 49], true), ([48, 48, 48, 49, 48, 48], true), ([48, 48, 48, 49, 48, 49], false), ([48, 48, 48, 49, 49, 48], true), ([48, 48, 48, 49, 49, 49], false), ([48, 48, 49, 48, 48, 48], true), ([48, 48, 49, 48, 48, 49], false), ([48, 48, 49, 48, 49, 48], false), ([48, 48, 49, 48, 49, 49], true), ([48, 48, 49, 49, 48, 48], true), ([48, 48, 49, 49, 48, 49], true), ([48, 48, 49, 49, 49, 48], false), ([48, 48, 49, 49, 49, 49], false), ([48, 49, 48, 48, 48, 48], true), ([48, 49, 48, 48, 48, 49], false), ([48, 49, 48, 48, 49, 48], false), ([48, 49, 48, 48, 49, 49], false), ([48, 49, 48, 49, 48, 48], false), ([48, 49, 48, 49, 48, 49], false), ([48, 49, 48, 49, 49, 48], true), ([48, 49, 48, 49, 49, 49], false), ([48, 49, 49, 48, 48, 48], true), ([48, 49, 49, 48, 48, 49], false), ([48, 49, 49, 48, 49, 48], true), ([48, 49, 49, 48, 49, 49], false), ([48, 49, 49, 49, 48, 48], false), ([48, 49, 49, 49, 48, 49], false), ([48, 49, 49, 49, 49, 48], false), ([48, 49, 49, 49, 49, 49], false), ([49, 48, 48, 48, 48, 48], true), ([49, 48, 48, 48, 48, 49], false), ([49, 48, 48, 48, 49, 48], false), ([49, 48, 48, 48, 49, 49], false), ([49, 48, 48, 49, 48, 48], false), ([49, 48, 48, 49, 48, 49], false), ([49, 48, 48, 49, 49, 48], false), ([49, 48, 48, 49, 49, 49], false), ([49, 48, 49, 48, 48, 48], false), ([49, 48, 49, 48, 48, 49], false), ([49, 48, 49, 48, 49, 48], false), ([49, 48, 49, 48, 49, 49], true), ([49, 48, 49, 49, 48, 48], true), ([49, 48, 49, 49, 48, 49], false), ([49, 48, 49, 49, 49, 48], false), ([49, 48, 49, 49, 49, 49], true), ([49, 49, 48, 48, 48, 48], true), ([49, 49, 48, 48, 48, 49], false), ([49, 49, 48, 48, 49, 48], false), ([49, 49, 48, 48, 49, 49], true), ([49, 49, 48, 49, 48, 48], true), ([49, 49, 48, 49, 48, 49], true), ([49, 49, 48, 49, 49, 48], false), ([49, 49, 48, 49, 49, 49], false), ([49, 49, 49, 48, 48, 48], false), ([49, 49, 49, 48, 48, 49], false), ([49, 49, 49, 48, 49, 48], false), ([49, 49, 49, 48, 49, 49], false), ([49, 49, 49, 49, 48, 48], false), ([49, 49, 49, 49, 48, 49], true), ([49, 49, 49, 49, 49, 48], false), ([49, 49, 49, 49, 49, 49], false)]
noncomputable def cuts : List (Nat × Nat × List Nat) := [(4, 0, [48, 48, 48, 49]), (4, 0, [48, 48, 49, 48]), (4, 0, [48, 48, 49, 49]), (4, 0, [48, 49, 48, 48]), (4, 0, [48, 49, 48, 49]), (4, 0, [48, 49, 49, 48]), (4, 0, [48, 49, 49, 49]), (4, 0, [49, 48, 48, 48]), (4, 0, [49, 48, 48, 49]), (4, 0, [49, 48, 49, 48]), (4, 0, [49, 48, 49, 49]), (4, 0, [49, 49, 48, 48]), (4, 0, [49, 49, 48, 49]), (4, 0, [49, 49, 49, 48]), (4, 0, [49, 49, 49, 49]), (5, 0, [48, 48, 48, 48, 49]), (5, 0, [48, 48, 48, 49, 48]), (5, 0, [48, 48, 48, 49, 49]), (5, 0, [48, 48, 49, 48, 48]), (5, 0, [48, 48, 49, 48, 49]), (5, 0, [48, 48, 49, 49, 48]), (5, 0, [48, 48, 49, 49, 49]), (5, 0, [48, 49, 48, 48, 48]), (5, 0, [48, 49, 48, 48, 49]), (5, 0, [48, 49, 48, 49, 48]), (5, 0, [48, 49, 48, 49, 49]), (5, 0, [48, 49, 49, 48, 48]), (5, 0, [48, 49, 49, 48, 49]), (5, 0, [48, 49, 49, 49, 48]), (5, 0, [48, 49, 49, 49, 49]), (5, 0, [49, 48, 48, 48, 48]), (5, 0, [49, 48, 48, 48, 49]), (5, 0, [49, 48, 48, 49, 48]), (5, 0, [49, 48, 48, 49, 49]), (5, 0, [49, 48, 49, 48, 48]), (5, 0, [49, 48, 49, 48, 49]), (5, 0, [49, 48, 49, 49, 48]), (5, 0, [49, 48, 49, 49, 49]), (5, 0, [49, 49, 48, 48, 48]), (5, 0, [49, 49, 48, 48, 49]), (5, 0, [49, 49, 48, 49, 48]), (5, 0, [49, 49, 48, 49, 49]), (5, 0, [49, 49, 49, 48, 48]), (5, 0, [49, 49, 49, 48, 49]), (5, 0, [49, 49, 49, 49, 48]), (5, 0, [49, 49, 49, 49, 49]), (6, 0, [48, 48, 48, 48, 48, 49]), (6, 0, [48, 48, 48, 48, 49, 48]), (6, 0, [48, 48, 48, 48, 49, 49]), (6, 0, [48, 48, 48, 49, 48, 48]), (6, 0, [48, 48, 48, 49, 48, 49]), (6, 0, [48, 48, 48, 49, 49, 48]), (6, 0, [48, 48, 48, 49, 49, 49]), (6, 0, [48, 48, 49, 48, 48, 48]), (6, 0, [48, 48, 49, 48, 48, 49]), (6, 0, [48, 48, 49, 48, 49, 48]), (6, 0, [48, 48, 49, 48, 49, 49]), (6, 0, [48, 48, 49, 49, 48, 48]), (6, 0, [48, 48, 49, 49, 48, 49]), (6, 0, [48, 48, 49, 49, 49, 48]), (6, 0, [48, 48, 49, 49, 49, 49]), (6, 0, [48, 49, 48, 48, 48, 48]), (6, 0, [48, 49, 48, 48, 48, 49]), (6, 0, [48, 49, 48, 48, 49, 48]), (6, 0, [48, 49, 48, 48, 49, 49]), (6, 0, [48, 49, 48, 49, 48, 48]), (6, 0, [48, 49, 48, 49, 48, 49]), (6, 0, [48, 49, 48, 49, 49, 48]), (6, 0, [48, 49, 48, 49, 49, 49]), (6, 0, [48, 49, 49, 48, 48, 48]), (6, 0, [48, 49, 49, 48, 48, 49]), (6, 0, [48, 49, 49, 48, 49, 48]), (6, 0, [48, 49, 49, 48, 49, 49]), (6, 0, [48, 49, 49, 49, 48, 48]), (6, 0, [48, 49, 49, 49, 48, 49]), (6, 0, [48, 49, 49, 49, 49, 48]), (6, 0, [48, 49, 49, 49, 49, 49]), (6, 0, [49, 48, 48, 48, 48, 48]), (6, 0, [49, 48, 48, 48, 48, 49]), (6, 0, [49, 48, 48, 48, 49, 48]), (6, 0, [49, 48, 48, 48, 49, 49]), (6, 0, [49, 48, 48, 49, 48, 48]), (6, 0, [49, 48, 48, 49, 48, 49]), (6, 0, [49, 48, 48, 49, 49, 48]), (6, 0, [49, 48, 48, 49, 49, 49]), (6, 0, [49, 48, 49, 48, 48, 48]), (6, 0, [49, 48, 49, 48, 48, 49]), (6, 0, [49, 48, 49, 48, 49, 48]), (6, 0, [49, 48, 49, 48, 49, 49]), (6, 0, [49, 48, 49, 49, 48, 48]), (6, 0, [49, 48, 49, 49, 48, 49]), (6, 0, [49, 48, 49, 49, 49, 48]), (6, 0, [49, 48, 49, 49, 49, 49]), (6, 0, [49, 49, 48, 48, 48, 48]), (6, 0, [49, 49, 48, 48, 48, 49]), (6, 0, [49, 49, 48, 48, 49, 48]), (6, 0, [49, 49, 48, 48, 49, 49]), (6, 0, [49, 49, 48, 49, 48, 48]), (6, 0, [49, 49, 48, 49, 48, 49]), (6, 0, [49, 49, 48, 49, 49, 48]), (6, 0, [49, 49, 48, 49, 49, 49]), (6, 0, [49, 49, 49, 48, 48, 48]), (6, 0, [49, 49, 49, 48, 48, 49]), (6, 0, [49, 49, 49, 48, 49, 48]), (6, 0, [49, 49, 49, 48, 49, 49]), (6, 0, [49, 49, 49, 49, 48, 48]), (6, 0, [49, 49, 49, 49, 48, 49]), (6, 0, [49, 49, 49, 49, 49, 48]), (6, 0, [49, 49, 49, 49, 49, 49]), (4, 1, [48, 48, 48, 49]), (4, 1, [48, 48, 49, 48]), (4, 1, [48, 48, 49, 49]), (4, 1, [48, 49, 48, 48]), (4, 1, [48, 49, 49, 48]), (4, 1, [49, 48, 48, 48]), (4, 1, [49, 48, 49, 49]), (4, 1, [49, 49, 48, 48]), (4, 1, [49, 49, 48, 49]), (5, 1, [48, 48, 48, 48, 49]), (5, 1, [48, 48, 48, 49, 48]), (5, 1, [48, 48, 48, 49, 49]), (5, 1, [48, 48, 49, 48, 48]), (5, 1, [48, 48, 49, 49, 48]), (5, 1, [48, 49, 48, 48, 48]), (5, 1, [48, 49, 48, 49, 49]), (5, 1, [48, 49, 49, 48, 48]), (5, 1, [48, 49, 49, 48, 49]), (5, 1, [49, 48, 48, 48, 48]), (5, 1, [49, 48, 49, 49, 48]), (5, 1, [49, 49, 48, 48, 48]), (5, 1, [49, 49, 48, 49, 48]), (6, 1, [48, 48, 48, 48, 48, 49]), (6, 1, [48, 48, 48, 48, 49, 48]), (6, 1, [48, 48, 48, 48, 49, 49]), (6, 1, [48, 48, 48, 49, 48, 48]), (6, 1, [48, 48, 48, 49, 49, 48]), (6, 1, [48, 48, 49, 48, 48, 48]), (6, 1, [48, 48, 49, 48, 49, 49]), (6, 1, [48, 48, 49, 49, 48, 48]), (6, 1, [48, 48, 49, 49, 48, 49]), (6, 1, [48, 49, 48, 48, 48, 48]), (6, 1, [48, 49, 48, 49, 49, 48]), (6, 1, [48, 49, 49, 48, 48, 48]), (6, 1, [48, 49, 49, 48, 49, 48]), (6, 1, [49, 48, 48, 48, 48, 48]), (6, 1, [49, 48, 49, 48, 49, 49]), (6, 1, [49, 48, 49, 49, 48, 48]), (6, 1, [49, 48, 49, 49, 49, 49]), (6, 1, [49, 49, 48, 48, 48, 48]), (6, 1, [49, 49, 48, 48, 49, 49]), (6, 1, [49, 49, 48, 49, 48, 48]), (6, 1, [49, 49, 48, 49, 48, 49]), (6, 1, [49, 49, 49, 49, 48, 49])]
noncomputable def f_PlainHost_init : S := (sAsgA (xLoc 0) 9 (xLoc 1) (sAsgA (xLoc 0) 10 (xLoc 2) (sAsgA (xLoc 0) 11 (xLoc 3) (sAsgA (xLoc 0) 12 (xLit (.int (.ofNat 64))) (sAsgA (xLoc 0) 13 (xLit (.int (.ofNat 0))) (sAsgA (xLoc 0) 14 (xLst yNil) sNil))))))
noncomputable def f_Way_init : S := (sAsgA (xLoc 0) 0 (xLoc 1) (sAsgA (xLoc 0) 1 (xLoc 2) (sAsgA (xLoc 0) 2 (xLoc 3) (sAsgA (xLoc 0) 3 (xLoc 4) (sAsgA (xLoc 0) 4 (xLoc 5) (sAsgA (xLoc 0) 5 (xLoc 6) sNil))))))
noncomputable def f_PlainHost_step : S := (sAugA (xLoc 0) 13 1 (sIte (tGt (xAtt (xLoc 0) 13) (xAtt (xLoc 0) 10)) sBad sNil sNil))
noncomputable def f_settled : S := sBad
noncomputable def f_rem_end : S := (sRet (xLen (xLoc 0)))
noncomputable def f_chars_end : S := (sAsg 3 (xAdd (xLoc 1) (xLen (xLoc 2))) (sRet (xIte (tEq (xSlc (xLoc 0) (xLoc 1) (xLoc 3)) (xLoc 2)) (xLoc 3) (xLit .none))))
noncomputable def f_len_end : S := sBad
noncomputable def f_pos_end : S := sBad
noncomputable def f_rpos_end : S := (sRet (xIte (tEq (xSub (xLen (xLoc 0)) (xLoc 1)) (xLoc 2)) (xLoc 1) (xLit .none)))
noncomputable def f_tab_end : S := sBad
noncomputable def f_rtab_end : S := sBad
noncomputable def f_any_at : S := sBad
noncomputable def f_notany_at : S := sBad
noncomputable def f_span_end : S := sBad
noncomputable def f_break_end : S := sBad
noncomputable def f_one_end : S := (sIte (tEq (xLoc 0) (xLit (.str [99, 104, 97, 114, 115]))) (sRet (xCall f_chars_end (yCons (xLoc 1) (yCons (xLoc 2) (yCons (xLoc 3) yNil))))) sNil (sIte (tEq (xLoc 0) (xLit (.str [108, 101, 110]))) (sRet (xCall f_len_end (yCons (xLoc 1) (yCons (xLoc 2) (yCons (xLoc 3) yNil))))) sNil (sIte (tEq (xLoc 0) (xLit (.str [112, 111, 115]))) (sRet (xCall f_pos_end (yCons (xLoc 2) (yCons (xLoc 3) yNil)))) sNil (sIte (tEq (xLoc 0) (xLit (.str [114, 112, 111, 115]))) (sRet (xCall f_rpos_end (yCons (xLoc 1) (yCons (xLoc 2) (yCons (xLoc 3) yNil))))) sNil (sIte (tEq (xLoc 0) (xLit (.str [116, 97, 98]))) (sRet (xCall f_tab_end (yCons (xLoc 1) (yCons (xLoc 2) (yCons (xLoc 3) yNil))))) sNil (sIte (tEq (xLoc 0) (xLit (.str [114, 116, 97, 98]))) (sRet (xCall f_rtab_end (yCons (xLoc 1) (yCons (xLoc 2) (yCons (xLoc 3) yNil))))) sNil (sIte (tEq (xLoc 0) (xLit (.str [97, 110, 121]))) (sRet (xCall f_any_at (yCons (xLoc 1) (yCons (xLoc 2) (yCons (xLoc 3) yNil))))) sNil (sIte (tEq (xLoc 0) (xLit (.str [110, 111, 116, 97, 110, 121]))) (sRet (xCall f_notany_at (yCons (xLoc 1) (yCons (xLoc 2) (yCons (xLoc 3) yNil))))) sNil (sIte (tEq (xLoc 0) (xLit (.str [115, 112, 97, 110]))) (sRet (xCall f_span_end (yCons (xLoc 1) (yCons (xLoc 2) (yCons (xLoc 3) yNil))))) sNil (sRet (xCall f_break_end (yCons (xLoc 1) (yCons (xLoc 2) (yCons (xLoc 3) yNil))))))))))))))
noncomputable def f_plain_end : S := (sRet (xIte (tEq (xIdx code0 (xLoc 0) (xLit (.int (.ofNat 0)))) (xLit (.str [114, 101, 109]))) (xCall f_rem_end (yCons (xLoc 1) yNil)) (xCall f_one_end (yCons (xIdx code0 (xLoc 0) (xLit (.int (.ofNat 0)))) (yCons (xLoc 1) (yCons (xLoc 2) (yCons (xIdx code0 (xLoc 0) (xLit (.int (.ofNat 1)))) yNil)))))))
noncomputable def f_Match_met_once : S := (sAsg 3 (xIdx code0 (xLoc 1) (xLit (.int (.ofNat 2)))) (sIte (tVal (xIsi 0 (xLoc 3))) (sAsg 4 (xCall f_settled (yCons (xTup (yCons (xIdx code0 (xLoc 1) (xLit (.int (.ofNat 1)))) (yCons (xLoc 3) yNil))) (yCons (xAtt (xLoc 0) 7) yNil))) (sIte (tIsN (xLoc 4)) (sRet (xLit (.bool false))) sNil (sAsg 3 (xIdx code0 (xLoc 4) (xLit (.int (.ofNat 1)))) sNil))) sNil (sAsg 5 (xCall f_plain_end (yCons (xTup (yCons (xIdx code0 (xLoc 1) (xLit (.int (.ofNat 1)))) (yCons (xLoc 3) yNil))) (yCons (xAtt (xLoc 0) 6) (yCons (xAtt (xLoc 2) 2) yNil)))) (sIte (tIsN (xLoc 5)) (sRet (xLit (.bool false))) sNil (sAsgA (xLoc 2) 2 (xLoc 5) (sAugA (xLoc 2) 1 1 (sRet (xLit (.bool true)))))))))
noncomputable def f_Way_copied : S := (sRet (xNew 449 f_Way_init (yCons (xAtt (xLoc 0) 0) (yCons (xLoc 1) (yCons (xAtt (xLoc 0) 2) (yCons (xAtt (xLoc 0) 3) (yCons (xAtt (xLoc 0) 4) (yCons (xAtt (xLoc 0) 5) yNil))))))))
noncomputable def f_PlainHost_assign : S := (sIte (tInL (xAtt (xLoc 1) 17) (xAtt (xLoc 0) 11)) (sRet (xLit (.bool false))) sNil (sAsgI (xAtt (xLoc 0) 9) (xAtt (xLoc 1) 17) (xLoc 2) (sEx (xApp (xAtt (xLoc 0) 14) (xTup (yCons (xAtt (xLoc 1) 17) (yCons (xLoc 2) yNil)))) (sRet (xLit (.bool true))))))
noncomputable def f_Match_ended : S := (sAsgT [3, 4] (xAtt (xLoc 2) 4) (sAsgA (xLoc 2) 4 (xLoc 3) (sAsg 5 (xSlc (xAtt (xLoc 0) 6) (xLoc 4) (xAtt (xLoc 2) 2)) (sIte (tEq (xIdx code0 (xLoc 1) (xLit (.int (.ofNat 0)))) (xLit (.str [103, 97, 105, 110]))) (sRet (xBool (tGt (xAtt (xLoc 2) 2) (xLoc 4)))) sNil (sIte (tEq (xIdx code0 (xLoc 1) (xLit (.int (.ofNat 0)))) (xLit (.str [115, 101, 116]))) (sRet (xMth 582 f_PlainHost_assign (xAtt (xLoc 0) 7) (yCons (xIdx code0 (xLoc 1) (xLit (.int (.ofNat 1)))) (yCons (xLoc 5) yNil)))) sNil (sAsgA (xLoc 2) 3 (xTup (yCons (xAtt (xLoc 2) 3) (yCons (xTup (yCons (xIdx code0 (xLoc 1) (xLit (.int (.ofNat 1)))) (yCons (xLoc 5) yNil))) yNil))) (sRet (xLit (.bool true)))))))))
noncomputable def f_Match_met_often : S := sBad
noncomputable def f_ends_of : S := sBad
noncomputable def f_Match_asked : S := sBad
noncomputable def f_Match_other : S := (sAsg 3 (xIdx code0 (xLoc 1) (xLit (.int (.ofNat 0)))) (sIte (tEq (xLoc 3) (xLit (.str [102, 97, 105, 108]))) (sRet (xLit (.bool false))) sNil (sIte (tEq (xLoc 3) (xLit (.str [119, 97, 121, 115]))) (sRet (xMth 526 f_Match_met_often (xLoc 0) (yCons (xLoc 2) (yCons (xCall f_ends_of (yCons (xIdx code0 (xLoc 1) (xLit (.int (.ofNat 1)))) (yCons (xAtt (xLoc 0) 6) (yCons (xAtt (xLoc 2) 2) (yCons (xLit .none) yNil))))) yNil)))) sNil (sIte (tEq (xLoc 3) (xLit (.str [97, 115, 107]))) (sRet (xMth 526 f_Match_asked (xLoc 0) (yCons (xIdx code0 (xLoc 1) (xLit (.int (.ofNat 1)))) (yCons (xLoc 2) yNil)))) sNil (sIte (tEq (xLoc 3) (xLit (.str [100, 111, 110, 101]))) sBad sNil (sIte (tEq (xLoc 3) (xLit (.str [102, 101, 110, 99, 101]))) (sEx (xApp (xAtt (xLoc 0) 8) (xNew 449 f_Way_init (yCons (xLit .none) (yCons (xLit (.int (.ofNat 0))) (yCons (xLit (.int (.ofNat 0))) (yCons (xLit .none) (yCons (xLit .none) (yCons (xLit .none) yNil)))))))) sNil) (sIte (tEq (xLoc 3) (xLit (.str [115, 117, 99, 99, 101, 101, 100]))) (sEx (xApp (xAtt (xLoc 0) 8) (xMth 449 f_Way_copied (xLoc 2) (yCons (xAtt (xLoc 2) 1) yNil))) sNil) sNil sNil) (sAugA (xLoc 2) 1 1 (sRet (xLit (.bool true))))))))))
noncomputable def f_Match_done : S := (sAsg 3 (xIdx code0 (xLoc 1) (xLit (.int (.ofNat 0)))) (sIte (tEq (xLoc 3) (xLit (.str [111, 110, 101]))) (sRet (xMth 526 f_Match_met_once (xLoc 0) (yCons (xLoc 1) (yCons (xLoc 2) yNil)))) sNil (sIte (tEq (xLoc 3) (xLit (.str [115, 112, 108, 105, 116]))) (sEx (xApp (xAtt (xLoc 0) 8) (xMth 449 f_Way_copied (xLoc 2) (yCons (xIdx code0 (xLoc 1) (xLit (.int (.ofNat 1)))) yNil))) sNil) (sIte (tEq (xLoc 3) (xLit (.str [106, 117, 109, 112]))) (sAsgA (xLoc 2) 1 (xIdx code0 (xLoc 1) (xLit (.int (.ofNat 1)))) (sRet (xLit (.bool true)))) (sIte (tEq (xLoc 3) (xLit (.str [109, 97, 114, 107]))) (sAsgA (xLoc 2) 4 (xTup (yCons (xAtt (xLoc 2) 4) (yCons (xAtt (xLoc 2) 2) yNil))) sNil) (sIte (tInT (xLoc 3) [[110, 97, 109, 101], [115, 101, 116], [103, 97, 105, 110]]) (sIte (tNot (tVal (xMth 526 f_Match_ended (xLoc 0) (yCons (xLoc 1) (yCons (xLoc 2) yNil))))) (sRet (xLit (.bool false))) sNil sNil) (sIte (tEq (xLoc 3) (xLit (.str [112, 108, 97, 99, 101]))) (sIte (tNot (tVal (xMth 582 f_PlainHost_assign (xAtt (xLoc 0) 7) (yCons (xIdx code0 (xLoc 1) (xLit (.int (.ofNat 1)))) (yCons (xAtt (xLoc 2) 2) yNil))))) (sRet (xLit (.bool false))) sNil sNil) (sRet (xMth 526 f_Match_other (xLoc 0) (yCons (xLoc 1) (yCons (xLoc 2) yNil)))) sNil) sNil) sNil) sNil) (sAugA (xLoc 2) 1 1 (sRet (xLit (.bool true)))))))
noncomputable def f_Match_way_back : S := (sRet (xIte (tGt (xLen (xAtt (xLoc 0) 8)) (xLit (.int (.ofNat 0)))) (xPop (xAtt (xLoc 0) 8)) (xLit .none)))
noncomputable def f_Match_run : S := (sAsg 3 (xNew 449 f_Way_init (yCons (xLoc 1) (yCons (xLit (.int (.ofNat 0))) (yCons (xLoc 2) (yCons (xLit .none) (yCons (xLit .none) (yCons (xLit .none) yNil))))))) (sWhl 200 (tNotN (xLoc 3)) (sEx (xMth 582 f_PlainHost_step (xAtt (xLoc 0) 7) yNil) (sAsg 4 (xIdx code0 (xAtt (xLoc 3) 0) (xAtt (xLoc 3) 1)) (sIte (tAnd (tEq (xIdx code0 (xLoc 4) (xLit (.int (.ofNat 0)))) (xLit (.str [100, 111, 110, 101]))) (tIsN (xAtt (xLoc 3) 5))) (sRet (xTup (yCons (xLit (.int (.ofNat 0))) (yCons (xLoc 3) yNil)))) sNil (sIte (tEq (xIdx code0 (xLoc 4) (xLit (.int (.ofNat 0)))) (xLit (.str [97, 98, 111, 114, 116]))) (sRet (xTup (yCons (xLit (.int (.ofNat 2))) (yCons (xLit .none) yNil)))) sNil (sIte (tNot (tVal (xMth 526 f_Match_done (xLoc 0) (yCons (xLoc 4) (yCons (xLoc 3) yNil))))) (sAsg 3 (xMth 526 f_Match_way_back (xLoc 0) yNil) (sIte (tAnd (tNotN (xLoc 3)) (tIsN (xAtt (xLoc 3) 0))) (sRet (xTup (yCons (xLit (.int (.ofNat 2))) (yCons (xLit .none) yNil)))) sNil sNil)) sNil sNil))))) (sRet (xTup (yCons (xLit (.int (.ofNat 1))) (yCons (xLit .none) yNil))))))
noncomputable def f_Match_init : S := (sAsgA (xLoc 0) 6 (xLoc 1) (sAsgA (xLoc 0) 7 (xLoc 2) (sAsgA (xLoc 0) 8 (xLst yNil) sNil)))
noncomputable def f_named_rows : S := (sAsg 1 (xLst yNil) (sWhl 3 (tNotN (xLoc 0)) (sAsgT [0, 2] (xLoc 0) (sEx (xApp (xLoc 1) (xLoc 2)) sNil)) (sEx (xRev (xLoc 1)) (sRet (xLoc 1)))))
noncomputable def f_match_orders : S := (sForR 20 4 (xIte (tVal (xLoc 2)) (xLit (.int (.ofNat 1))) (xAdd (xLen (xLoc 1)) (xLit (.int (.ofNat 1))))) (sAsgT [5, 6] (xMth 526 f_Match_run (xNew 526 f_Match_init (yCons (xLoc 1) (yCons (xLoc 3) yNil))) (yCons (xLoc 0) (yCons (xLoc 4) yNil))) (sIte (tEq (xLoc 5) (xLit (.int (.ofNat 0)))) (sRet (xTup (yCons (xLoc 4) (yCons (xAtt (xLoc 6) 2) (yCons (xCall f_named_rows (yCons (xAtt (xLoc 6) 3) yNil)) yNil))))) sNil (sIte (tEq (xLoc 5) (xLit (.int (.ofNat 2)))) (sRet (xLit .none)) sNil sNil))) (sRet (xLit .none)))
noncomputable def f_law_met : S := (sRet (xBool (tNotN (xCall f_match_orders (yCons (xLoc 0) (yCons (xLoc 1) (yCons (xLit (.bool true)) (yCons (xNew 582 f_PlainHost_init (yCons xDct (yCons (xLit (.int (.ofNat 99999))) (yCons (xLst yNil) yNil)))) yNil))))))))
noncomputable def f_law_row : S := (sAsg 1 (xIte (tVal (xIsi 0 (xLast (xLoc 0)))) (xLast (xLoc 0)) (xTup (yCons (xLit (.str [99, 104, 97, 114, 115])) (yCons (xLast (xLoc 0)) yNil)))) (sFor 150 2 (xBack2 (xLoc 0)) (sAsg 1 (xTup (yCons (xLit (.str [99, 97, 116])) (yCons (xIte (tVal (xIsi 0 (xLoc 2))) (xLoc 2) (xTup (yCons (xLit (.str [99, 104, 97, 114, 115])) (yCons (xLoc 2) yNil)))) (yCons (xLoc 1) yNil)))) sNil) (sRet (xLoc 1))))
noncomputable def f_law_any : S := (sAsg 1 (xLast (xLoc 0)) (sFor 150 2 (xBack2 (xLoc 0)) (sAsg 1 (xTup (yCons (xLit (.str [97, 108, 116])) (yCons (xLoc 2) (yCons (xLoc 1) yNil)))) sNil) (sRet (xLoc 1))))
noncomputable def f_law_pattern : S := (sAsgT [0, 1] (xTup (yCons (xTup (yCons (xLit (.str [97, 114, 98, 110, 111])) (yCons (xTup (yCons (xLit (.str [99, 104, 97, 114, 115])) (yCons (xLit (.str [48])) yNil))) yNil))) (yCons (xTup (yCons (xLit (.str [97, 114, 98, 110, 111])) (yCons (xTup (yCons (xLit (.str [99, 104, 97, 114, 115])) (yCons (xLit (.str [49, 49])) yNil))) yNil))) yNil))) (sAsgT [2, 3] (xTup (yCons (xTup (yCons (xLit (.str [97, 114, 98, 110, 111])) (yCons (xTup (yCons (xLit (.str [99, 104, 97, 114, 115])) (yCons (xLit (.str [48, 49])) yNil))) yNil))) (yCons (xTup (yCons (xLit (.str [97, 114, 98, 110, 111])) (yCons (xTup (yCons (xLit (.str [99, 104, 97, 114, 115])) (yCons (xLit (.str [49, 48])) yNil))) yNil))) yNil))) (sAsg 4 (xCall f_law_any (yCons (xLst (yCons (xCall f_law_row (yCons (xLst (yCons (xLit (.str [48, 48])) (yCons (xLoc 1) yNil))) yNil)) (yCons (xCall f_law_row (yCons (xLst (yCons (xLoc 1) (yCons (xLit (.str [48, 48])) yNil))) yNil)) (yCons (xCall f_law_row (yCons (xLst (yCons (xLoc 1) (yCons (xLit (.str [49, 48, 49, 49])) yNil))) yNil)) (yCons (xCall f_law_row (yCons (xLst (yCons (xLit (.str [49, 49, 48, 49])) (yCons (xLoc 1) yNil))) yNil)) yNil))))) yNil)) (sAsg 5 (xLst (yCons (xTup (yCons (xLit (.str [99, 104, 97, 114, 115])) (yCons (xLit (.str [49])) yNil))) (yCons (xTup (yCons (xLit (.str [99, 104, 97, 114, 115])) (yCons (xLit (.str [48, 49, 49])) yNil))) (yCons (xTup (yCons (xLit (.str [99, 104, 97, 114, 115])) (yCons (xLit (.str [49, 49, 48])) yNil))) (yCons (xCall f_law_row (yCons (xLst (yCons (xLit (.str [49, 49])) (yCons (xLoc 2) (yCons (xLoc 4) (yCons (xLoc 3) (yCons (xLit (.str [49, 49])) yNil)))))) yNil)) yNil))))) (sEx (xExt (xLoc 5) (xLst (yCons (xCall f_law_row (yCons (xLst (yCons (xLit (.str [49, 49])) (yCons (xLoc 2) (yCons (xLoc 1) (yCons (xLit (.str [48, 49])) yNil))))) yNil)) (yCons (xCall f_law_row (yCons (xLst (yCons (xLit (.str [49, 48])) (yCons (xLoc 1) (yCons (xLoc 3) (yCons (xLit (.str [49, 49])) yNil))))) yNil)) yNil)))) (sRet (xCall f_law_row (yCons (xLst (yCons (xLoc 0) (yCons (xCall f_law_any (yCons (xLoc 5) yNil)) (yCons (xLoc 0) (yCons (xTup (yCons (xLit (.str [114, 112, 111, 115])) (yCons (xLit (.int (.ofNat 0))) yNil))) yNil))))) yNil))))))))
noncomputable def f_PatternCode_init : S := (sAsgA (xLoc 0) 0 (xLst yNil) sNil)
noncomputable def f_row_of : S := (sAsgR [3, 2] (xTup (yCons (xLst yNil) (yCons (xLst (yCons (xLoc 0) yNil)) yNil))) (sWhl 60 (tGt (xLen (xLoc 3)) (xLit (.int (.ofNat 0)))) (sAsg 4 (xPop (xLoc 3)) (sIte (tEq (xIdx code0 (xLoc 4) (xLit (.int (.ofNat 0)))) (xLoc 1)) (sEx (xExt (xLoc 3) (xLst (yCons (xIdx code0 (xLoc 4) (xLit (.int (.ofNat 2)))) (yCons (xIdx code0 (xLoc 4) (xLit (.int (.ofNat 1)))) yNil)))) sNil) (sEx (xApp (xLoc 2) (xLoc 4)) sNil) sNil)) (sRet (xLoc 2))))
noncomputable def f_is_plain_text : S := (sRet (xAnd (xBool (tEq (xIdx code0 (xLoc 0) (xLit (.int (.ofNat 0)))) (xLit (.str [99, 104, 97, 114, 115])))) (xIsi 1 (xIdx code0 (xLoc 0) (xLit (.int (.ofNat 1)))))))
noncomputable def f_with_texts_joined : S := (sAsg 1 (xLst yNil) (sFor 150 2 (xLoc 0) (sIte (tVal (xCall f_is_plain_text (yCons (xLoc 2) yNil))) (sIte (tEq (xIdx code0 (xLoc 2) (xLit (.int (.ofNat 1)))) (xLit (.str []))) sCont sNil (sIte (tAnd (tGt (xLen (xLoc 1)) (xLit (.int (.ofNat 0)))) (tVal (xCall f_is_plain_text (yCons (xIdx code0 (xLoc 1) (xSub (xLen (xLoc 1)) (xLit (.int (.ofNat 1))))) yNil)))) (sAsg 2 (xTup (yCons (xLit (.str [99, 104, 97, 114, 115])) (yCons (xAdd (xIdx code0 (xPop (xLoc 1)) (xLit (.int (.ofNat 1)))) (xIdx code0 (xLoc 2) (xLit (.int (.ofNat 1))))) yNil))) sNil) sNil sNil)) sNil (sEx (xApp (xLoc 1) (xLoc 2)) sNil)) (sRet (xLoc 1))))
noncomputable def f_PatternCode_choice : S := (sAsgR [3, 2] (xTup (yCons (xLst yNil) (yCons (xLst (yCons (xLit (.int (.negSucc 0))) (yCons (xLst yNil) yNil))) yNil))) (sFor 150 4 (xHi (xLoc 1) (xSub (xLen (xLoc 1)) (xLit (.int (.ofNat 1))))) (sEx (xExt (xLoc 2) (xLst (yCons (xTup (yCons (xLit (.str [111, 112, 101, 110])) (yCons (xLoc 3) yNil))) (yCons (xTup (yCons (xLit (.str [112, 117, 116])) (yCons (xLoc 4) yNil))) (yCons (xTup (yCons (xLit (.str [115, 104, 117, 116])) (yCons (xLoc 3) yNil))) yNil))))) sNil) (sRet (xAdd (xLoc 2) (xLst (yCons (xTup (yCons (xLit (.str [112, 117, 116])) (yCons (xIdx code0 (xLoc 1) (xSub (xLen (xLoc 1)) (xLit (.int (.ofNat 1))))) yNil))) (yCons (xTup (yCons (xLit (.str [109, 101, 101, 116])) (yCons (xLoc 3) yNil))) yNil)))))))
noncomputable def f_PatternCode_emit : S := (sEx (xApp (xAtt (xLoc 0) 0) (xLoc 1)) (sRet (xSub (xLen (xAtt (xLoc 0) 0)) (xLit (.int (.ofNat 1))))))
noncomputable def f_PatternCode_repeat : S := (sAsg 2 (xMth 94 f_PatternCode_emit (xLoc 0) (yCons (xLit .none) yNil)) (sAsg 3 (xMth 94 f_PatternCode_emit (xLoc 0) (yCons (xLit .none) yNil)) (sAsgI (xAtt (xLoc 0) 0) (xLoc 2) (xTup (yCons (xLit (.str [115, 112, 108, 105, 116])) (yCons (xLen (xAtt (xLoc 0) 0)) yNil))) (sEx (xMth 94 f_PatternCode_emit (xLoc 0) (yCons (xTup (yCons (xLit (.str [109, 97, 114, 107])) yNil)) yNil)) (sRet (xLst (yCons (xTup (yCons (xLit (.str [112, 117, 116])) (yCons (xLoc 1) yNil))) (yCons (xTup (yCons (xLit (.str [101, 109, 105, 116])) (yCons (xTup (yCons (xLit (.str [103, 97, 105, 110])) yNil)) yNil))) (yCons (xTup (yCons (xLit (.str [101, 109, 105, 116])) (yCons (xTup (yCons (xLit (.str [106, 117, 109, 112])) (yCons (xLoc 2) yNil))) yNil))) (yCons (xTup (yCons (xLit (.str [109, 101, 101, 116])) (yCons (xLst (yCons (xLoc 2) (yCons (xLst (yCons (xLoc 3) yNil)) yNil))) yNil))) yNil))))))))))
noncomputable def f_PatternCode_begun : S := (sAsg 2 (xIdx code0 (xLoc 1) (xLit (.int (.ofNat 0)))) (sIte (tEq (xLoc 2) (xLit (.str [99, 97, 116]))) (sRet (xComp 40 (xCall f_with_texts_joined (yCons (xCall f_row_of (yCons (xLoc 1) (yCons (xLit (.str [99, 97, 116])) yNil))) yNil)) [] tYes (xTup (yCons (xLit (.str [112, 117, 116])) (yCons (xLoc 0) yNil))))) sNil (sIte (tEq (xLoc 2) (xLit (.str [97, 108, 116]))) (sRet (xMth 94 f_PatternCode_choice (xLoc 0) (yCons (xCall f_row_of (yCons (xLoc 1) (yCons (xLit (.str [97, 108, 116])) yNil))) yNil))) sNil (sIte (tEq (xLoc 2) (xLit (.str [97, 114, 98, 110, 111]))) (sRet (xMth 94 f_PatternCode_repeat (xLoc 0) (yCons (xIdx code0 (xLoc 1) (xLit (.int (.ofNat 1)))) yNil))) sNil (sIte (tOr (tEq (xLoc 2) (xLit (.str [108, 97, 116, 101, 114]))) (tEq (xLoc 2) (xLit (.str [110, 111, 119])))) (sEx (xMth 94 f_PatternCode_emit (xLoc 0) (yCons (xTup (yCons (xLit (.str [109, 97, 114, 107])) yNil)) yNil)) (sRet (xLst (yCons (xTup (yCons (xLit (.str [112, 117, 116])) (yCons (xIdx code0 (xLoc 1) (xLit (.int (.ofNat 1)))) yNil))) (yCons (xTup (yCons (xLit (.str [101, 109, 105, 116])) (yCons (xTup (yCons (xIte (tEq (xLoc 2) (xLit (.str [108, 97, 116, 101, 114]))) (xLit (.str [110, 97, 109, 101])) (xLit (.str [115, 101, 116]))) (yCons (xIdx code0 (xLoc 1) (xLit (.int (.ofNat 2)))) yNil))) yNil))) yNil))))) sNil (sIte (tInT (xLoc 2) [[99, 104, 97, 114, 115], [108, 101, 110], [112, 111, 115], [114, 112, 111, 115], [116, 97, 98], [114, 116, 97, 98], [97, 110, 121], [110, 111, 116, 97, 110, 121], [115, 112, 97, 110], [98, 114, 101, 97, 107], [114, 101, 109]]) (sEx (xMth 94 f_PatternCode_emit (xLoc 0) (yCons (xTup (yCons (xLit (.str [111, 110, 101])) (yCons (xLoc 2) (yCons (xIte (tGt (xLen (xLoc 1)) (xLit (.int (.ofNat 1)))) (xIdx code0 (xLoc 1) (xLit (.int (.ofNat 1)))) (xLit .none)) yNil)))) yNil)) sNil) (sIte (tOr (tEq (xLoc 2) (xLit (.str [97, 114, 98]))) (tEq (xLoc 2) (xLit (.str [98, 97, 108])))) (sEx (xMth 94 f_PatternCode_emit (xLoc 0) (yCons (xTup (yCons (xLit (.str [119, 97, 121, 115])) (yCons (xLoc 2) yNil))) yNil)) sNil) (sEx (xMth 94 f_PatternCode_emit (xLoc 0) (yCons (xIte (tInT (xLoc 2) [[102, 101, 110, 99, 101], [102, 97, 105, 108], [97, 98, 111, 114, 116], [115, 117, 99, 99, 101, 101, 100]]) (xTup (yCons (xLoc 2) yNil)) (xTup (yCons (xIte (tEq (xLoc 2) (xLit (.str [99, 117, 114, 115, 111, 114]))) (xLit (.str [112, 108, 97, 99, 101])) (xLit (.str [97, 115, 107]))) (yCons (xIdx code0 (xLoc 1) (xLit (.int (.ofNat 1)))) yNil)))) yNil)) sNil) sNil) (sRet (xLst yNil))))))))
noncomputable def f_PatternCode_bound : S := (sIte (tEq (xLoc 1) (xLit (.str [111, 112, 101, 110]))) (sAsgI (xLoc 2) (xLit (.int (.ofNat 0))) (xMth 94 f_PatternCode_emit (xLoc 0) (yCons (xLit .none) yNil)) sNil) (sIte (tEq (xLoc 1) (xLit (.str [115, 104, 117, 116]))) (sEx (xApp (xIdx code0 (xLoc 2) (xLit (.int (.ofNat 1)))) (xMth 94 f_PatternCode_emit (xLoc 0) (yCons (xLit .none) yNil))) (sAsgI (xAtt (xLoc 0) 0) (xIdx code0 (xLoc 2) (xLit (.int (.ofNat 0)))) (xTup (yCons (xLit (.str [115, 112, 108, 105, 116])) (yCons (xLen (xAtt (xLoc 0) 0)) yNil))) sNil)) (sFor 150 3 (xIdx code0 (xLoc 2) (xLit (.int (.ofNat 1)))) (sAsgI (xAtt (xLoc 0) 0) (xLoc 3) (xTup (yCons (xLit (.str [106, 117, 109, 112])) (yCons (xLen (xAtt (xLoc 0) 0)) yNil))) sNil) sNil) sNil) sNil)
noncomputable def f_PatternCode_put : S := (sAsg 2 (xLst (yCons (xTup (yCons (xLit (.str [112, 117, 116])) (yCons (xLoc 1) yNil))) yNil)) (sWhl 300 (tGt (xLen (xLoc 2)) (xLit (.int (.ofNat 0)))) (sAsgT [3, 4] (xPop (xLoc 2)) (sIte (tEq (xLoc 3) (xLit (.str [112, 117, 116]))) (sEx (xExt (xLoc 2) (xBack (xMth 94 f_PatternCode_begun (xLoc 0) (yCons (xLoc 4) yNil)))) sNil) (sIte (tEq (xLoc 3) (xLit (.str [101, 109, 105, 116]))) (sEx (xMth 94 f_PatternCode_emit (xLoc 0) (yCons (xLoc 4) yNil)) sNil) (sEx (xMth 94 f_PatternCode_bound (xLoc 0) (yCons (xLoc 3) (yCons (xLoc 4) yNil))) sNil) sNil) sNil)) sNil))
noncomputable def f_straightened : S := (sAsg 1 (xLst yNil) (sFor 150 2 (xLoc 0) (sIte (tInT (xIdx code0 (xLoc 2) (xLit (.int (.ofNat 0)))) [[106, 117, 109, 112], [115, 112, 108, 105, 116]]) (sAsg 3 (xIdx code0 (xLoc 2) (xLit (.int (.ofNat 1)))) (sWhl 60 (tEq (xIdx code0 (xIdx code0 (xLoc 0) (xLoc 3)) (xLit (.int (.ofNat 0)))) (xLit (.str [106, 117, 109, 112]))) (sAsg 3 (xIdx code0 (xIdx code0 (xLoc 0) (xLoc 3)) (xLit (.int (.ofNat 1)))) sNil) (sAsg 2 (xTup (yCons (xIdx code0 (xLoc 2) (xLit (.int (.ofNat 0)))) (yCons (xLoc 3) yNil))) sNil))) sNil (sEx (xApp (xLoc 1) (xLoc 2)) sNil)) (sRet (xLoc 1))))
noncomputable def f_compile_pattern : S := (sAsg 1 (xNew 94 f_PatternCode_init yNil) (sEx (xMth 94 f_PatternCode_put (xLoc 1) (yCons (xLoc 0) yNil)) (sEx (xMth 94 f_PatternCode_emit (xLoc 1) (yCons (xTup (yCons (xLit (.str [100, 111, 110, 101])) yNil)) yNil)) (sRet (xCall f_straightened (yCons (xAtt (xLoc 1) 0) yNil))))))
noncomputable def f_NameRef_init : S := (sAsgA (xLoc 0) 15 (xLoc 1) (sAsgA (xLoc 0) 16 (xLoc 2) (sAsgA (xLoc 0) 17 (xLoc 3) sNil)))
noncomputable def f_law_jumps : S := (sAsg 2 (xNew 582 f_PlainHost_init (yCons xDct (yCons (xLit (.int (.ofNat 99999))) (yCons (xLst yNil) yNil)))) (sEx (xCall f_match_orders (yCons (xLoc 0) (yCons (xLoc 1) (yCons (xLit (.bool false)) (yCons (xLoc 2) yNil))))) (sAsg 3 (xLst yNil) (sForT 150 [4, 5] (xAtt (xLoc 2) 14) (sAsg 6 (xIte (tEq (xSlc (xLoc 1) (xSub (xLoc 5) (xLit (.int (.ofNat 3)))) (xLoc 5)) (xLit (.str [49, 49, 48]))) (xLit (.str [48, 48, 49])) (xLit (.str [49, 48, 48]))) (sEx (xApp (xLoc 3) (xAdd (xAdd (xHi (xLoc 1) (xSub (xLoc 5) (xLit (.int (.ofNat 3))))) (xLoc 6)) (xLo (xLoc 1) (xLoc 5)))) sNil)) (sRet (xLoc 3))))))
noncomputable def f_tail : S := (sAsg 10 (xTup (yCons (xLit (.str [99, 97, 116])) (yCons (xTup (yCons (xLit (.str [97, 108, 116])) (yCons (xTup (yCons (xLit (.str [99, 104, 97, 114, 115])) (yCons (xLit (.str [49, 49, 48])) yNil))) (yCons (xTup (yCons (xLit (.str [99, 104, 97, 114, 115])) (yCons (xLit (.str [48, 49, 49])) yNil))) yNil)))) (yCons (xTup (yCons (xLit (.str [99, 97, 116])) (yCons (xTup (yCons (xLit (.str [99, 117, 114, 115, 111, 114])) (yCons (xNew 208 f_NameRef_init (yCons (xLit (.str [118, 97, 114])) (yCons (xLit .none) (yCons (xLit (.str [74])) yNil)))) yNil))) (yCons (xTup (yCons (xLit (.str [102, 97, 105, 108])) yNil)) yNil)))) yNil)))) (sAsgT [11, 12, 5] (xTup (yCons xCode (yCons (xCall f_compile_pattern (yCons (xLoc 10) yNil)) (yCons (xIdx code0 (xLoc 2) (xLit (.int (.ofNat 3)))) yNil)))) (sAsg 13 (xMet mets (xLoc 11) (xLoc 6)) (sIte (tAnd (tEq (xLoc 4) (xLit (.int (.ofNat 1)))) (tNot (tVal (xLoc 13)))) (sRet (xLit (.bool false))) sNil (sForR 20 7 (xLoc 3) (sAsg 14 (xComp 40 (xCall f_law_jumps (yCons (xLoc 12) (yCons (xLoc 6) yNil))) [11] (tVal (xMet mets (xLoc 1) (xLoc 0))) (xLoc 0)) (sIte (tNe (xLoc 13) (xOr (xBool (tEq (xCount 49 (xLoc 6)) (xLit (.int (.ofNat 1))))) (xBool (tNe (xLoc 14) (xLst yNil))))) (sRet (xLit (.bool false))) sNil (sIte (tEq (xLoc 14) (xLst yNil)) (sRet (xLit (.bool true))) sNil (sAsgT [6, 5, 13] (xTup (yCons (xIdx code0 (xLoc 14) (xMod (xLoc 5) (xLen (xLoc 14)))) (yCons (xDiv (xLoc 5) (xLen (xLoc 14))) (yCons (xLit (.bool true)) yNil)))) sNil)))) (sRet (xLit (.bool false))))))))
noncomputable def f_law : S := (sAsg 1 (xLst (yCons (xLit (.int (.ofNat 0))) (yCons (xLit (.int (.ofNat 1))) (yCons (xLit (.int (.ofNat 2))) (yCons (xLit (.int (.ofNat 0))) yNil))))) (sAsg 2 (xAdd (xComp 40 (xHi (xLoc 0) (xLit (.int (.ofNat 4)))) [] tYes (xAbs (xInt (xLoc 0)))) (xLo (xLoc 1) (xLen (xHi (xLoc 0) (xLit (.int (.ofNat 4))))))) (sAsgT [3, 4, 5] (xTup (yCons (xAdd (xLit (.int (.ofNat 4))) (xMod (xIdx code0 (xLoc 2) (xLit (.int (.ofNat 0)))) (xLit (.int (.ofNat 3))))) (yCons (xMod (xIdx code0 (xLoc 2) (xLit (.int (.ofNat 1)))) (xLit (.int (.ofNat 2)))) (yCons (xIdx code0 (xLoc 2) (xLit (.int (.ofNat 2)))) yNil)))) (sAsg 6 (xJoin (xCompR 20 (xLoc 3) [5] tYes (xIdx code0 (xLit (.str [48, 49])) (xMod (xDiv (xLoc 1) (xPow (xLit (.int (.ofNat 2))) (xLoc 0))) (xLit (.int (.ofNat 2))))))) (sIte (tEq (xLoc 4) (xLit (.int (.ofNat 1)))) (sAsgT [6, 5] (xTup (yCons (xAdd (xAdd (xMul (xLit (.str [48])) (xMod (xLoc 5) (xLoc 3))) (xLit (.str [49]))) (xMul (xLit (.str [48])) (xSub (xSub (xLoc 3) (xLit (.int (.ofNat 1)))) (xMod (xLoc 5) (xLoc 3))))) (yCons (xDiv (xLoc 5) (xLoc 3)) yNil))) (sForR 20 7 (xLoc 3) (sAsg 8 (xLst yNil) (sForR 20 9 (xSub (xLoc 3) (xLit (.int (.ofNat 2)))) (sIte (tInT (xSlc (xLoc 6) (xLoc 9) (xAdd (xLoc 9) (xLit (.int (.ofNat 3))))) [[48, 48, 49], [49, 48, 48]]) (sEx (xApp (xLoc 8) (xAdd (xAdd (xHi (xLoc 6) (xLoc 9)) (xIte (tEq (xSlc (xLoc 6) (xLoc 9) (xAdd (xLoc 9) (xLit (.int (.ofNat 3))))) (xLit (.str [48, 48, 49]))) (xLit (.str [49, 49, 48])) (xLit (.str [48, 49, 49])))) (xLo (xLoc 6) (xAdd (xLoc 9) (xLit (.int (.ofNat 3))))))) sNil) sNil sNil) (sIte (tEq (xLoc 8) (xLst yNil)) sBrk sNil (sAsgT [6, 5] (xTup (yCons (xIdx code0 (xLoc 8) (xMod (xLoc 5) (xLen (xLoc 8)))) (yCons (xDiv (xLoc 5) (xLen (xLoc 8))) yNil))) sNil)))) sNil)) (sIte (tNotIn 49 (xLoc 6)) (sAsg 6 (xAdd (xLit (.str [49])) (xLo (xLoc 6) (xLit (.int (.ofNat 1))))) sNil) sNil sNil) (sCut 2 3 4 6 cuts))))))
noncomputable def x_code : X := (xCall f_compile_pattern (yCons (xCall f_law_pattern yNil) yNil))
section
variable {g : G} {d : Nat} {fi : FI} {K : Frag}
theorem se_idx0 (hg : g.code = code0) {o i : Expr} {pos : Pos} {mo mi : Mine.X} (ho : SE g d fi o mo) (hi : SE g d fi i mi) : SE g d fi (.Subscript o i pos) (xIdx code0 mo mi) := hg ▸ se_idx ho hi
theorem se_code0 (hg : g.code = code0) {e : Expr} {m : Mine.X} (hE : SE g d fi e m) (hm : m [] ⟨.nil, 0, 0, []⟩ (isCode code0) = true) : SE g d fi e xCode := se_code hE (by rw [hg]; exact hm)
theorem sb_bad {e : Expr} : SB g d fi e (tVal xBad) := fun _ _ _ _ _ _ _ _ _ _ _ h => nomatch h
theorem se_c0 {x : Str} {np pos : Pos} {f d' : Nat} {m : Mine.S} (C : Top0 g K) (h : callOk K fi x f = true) (hF : FC g d' f 0 m) (hd : Nat.ble d' d = true) : SE g d fi (.Call (.Name x np) [] [] pos) (xCall m yNil) := by
  obtain ⟨h1, h2, h3, h4⟩ := callOk_of h
  intro A env μ loc st s k R En I L hm
  refine Call_Name rfl (glob_of C En I h1 h2 (callWith_K0 (C.in_ I) h4 ?_) h3)
  exact hF.run (vs := []) (Nat.le_of_ble_eq_true hd) R (Step.refl _ _) (Same.refl _) I .nil rfl hm
end
end Mine

open PySem PySem.W PySem.Calls PyProof.Rows
set_option Elab.async false
set_option maxRecDepth 100000
set_option maxHeartbeats 8000000
set_option linter.unusedVariables false
namespace Mine
theorem p_PlainHost_init {g : G} (C : Top0 g (KK g)) (hg : g.code = code0) : FC g 1 558 4 f_PlainHost_init := by
  refine fc_of C (fi := ⟨["self", "values", "limit", "refused"], (fdG (KK g) 558).scope⟩) (fd := fdG (KK g) 558) (ps := ["self", "values", "limit", "refused"]) (more := []) (by kernel_rfl) (by kernel_rfl) rfl rfl (show List.Nodup (α := Str) ["self", "values", "limit", "refused"] from by decide +kernel) rfl (len4 fun a b c d => by kernel_rfl) ?_
  conv => arg 4; whnf
  unfold f_PlainHost_init
  with_reducible exact (sl_asgA C (by k_dflt exact rfl) (se_l (by kernel_rfl)) (se_l (by kernel_rfl)) (sl_asgA C (by k_dflt exact rfl) (se_l (by kernel_rfl)) (se_l (by kernel_rfl)) (sl_asgA C (by k_dflt exact rfl) (se_l (by kernel_rfl)) (se_l (by kernel_rfl)) (sl_asgA C (by k_dflt exact rfl) (se_l (by kernel_rfl)) se_int (sl_asgA C (by k_dflt exact rfl) (se_l (by kernel_rfl)) se_int (sl_asgA C (by k_dflt exact rfl) (se_l (by kernel_rfl)) (se_lst ses_nil (Nat.le_of_ble_eq_true (by k_dflt exact rfl))) sl_nil))))))
theorem p_Way_init {g : G} (C : Top0 g (KK g)) (hg : g.code = code0) : FC g 1 439 7 f_Way_init := by
  refine fc_of C (fi := ⟨["self", "orders", "pc", "at", "named", "marks", "calls"], (fdG (KK g) 439).scope⟩) (fd := fdG (KK g) 439) (ps := ["self", "orders", "pc", "at", "named", "marks", "calls"]) (more := []) (by kernel_rfl) (by kernel_rfl) rfl rfl (show List.Nodup (α := Str) ["self", "orders", "pc", "at", "named", "marks", "calls"] from by decide +kernel) rfl (len7 fun a b c d e f g => by kernel_rfl) ?_
  conv => arg 4; whnf
  unfold f_Way_init
  with_reducible exact (sl_asgA C (by k_dflt exact rfl) (se_l (by kernel_rfl)) (se_l (by kernel_rfl)) (sl_asgA C (by k_dflt exact rfl) (se_l (by kernel_rfl)) (se_l (by kernel_rfl)) (sl_asgA C (by k_dflt exact rfl) (se_l (by kernel_rfl)) (se_l (by kernel_rfl)) (sl_asgA C (by k_dflt exact rfl) (se_l (by kernel_rfl)) (se_l (by kernel_rfl)) (sl_asgA C (by k_dflt exact rfl) (se_l (by kernel_rfl)) (se_l (by kernel_rfl)) (sl_asgA C (by k_dflt exact rfl) (se_l (by kernel_rfl)) (se_l (by kernel_rfl)) sl_nil))))))
theorem p_PlainHost_step {g : G} (C : Top0 g (KK g)) (hg : g.code = code0) : FC g 1 579 1 f_PlainHost_step := by
  refine fc_of C (fi := ⟨["self"], (fdG (KK g) 579).scope⟩) (fd := fdG (KK g) 579) (ps := ["self"]) (more := []) (by kernel_rfl) (by kernel_rfl) rfl rfl (show List.Nodup (α := Str) ["self"] from by decide +kernel) rfl (len1 fun a => by kernel_rfl) ?_
  conv => arg 4; whnf
  unfold f_PlainHost_step
  exact (sl_augA C (by k_dflt exact rfl) (se_l (by kernel_rfl)) (sl_ite (sb_cmp (sc_gt (se_att C (by k_dflt exact rfl) (se_l (by kernel_rfl))) (se_att C (by k_dflt exact rfl) (se_l (by kernel_rfl))))) sl_bad sl_nil sl_nil))
theorem p_settled {g : G} (C : Top0 g (KK g)) (hg : g.code = code0) : FC g 1 299 2 f_settled := by
  refine fc_of C (fi := ⟨["node", "host"], (fdG (KK g) 299).scope⟩) (fd := fdG (KK g) 299) (ps := ["node", "host"]) (more := []) (by kernel_rfl) (by kernel_rfl) rfl rfl (show List.Nodup (α := Str) ["node", "host"] from by decide +kernel) rfl (len2 fun a b => by kernel_rfl) ?_
  conv => arg 4; whnf
  unfold f_settled
  with_reducible exact sl_bad
theorem p_rem_end {g : G} (C : Top0 g (KK g)) (hg : g.code = code0) : FC g 1 348 1 f_rem_end := by
  refine fc_of C (fi := ⟨["subject"], (fdG (KK g) 348).scope⟩) (fd := fdG (KK g) 348) (ps := ["subject"]) (more := []) (by kernel_rfl) (by kernel_rfl) rfl rfl (show List.Nodup (α := Str) ["subject"] from by decide +kernel) rfl (len1 fun a => by kernel_rfl) ?_
  conv => arg 4; whnf
  unfold f_rem_end
  with_reducible exact (sl_ret (se_len C (bn (by kernel_rfl)) (se_l (by kernel_rfl))))
theorem p_chars_end {g : G} (C : Top0 g (KK g)) (hg : g.code = code0) : FC g 1 306 3 f_chars_end := by
  refine fc_of C (fi := ⟨["subject", "at", "text", "end"], (fdG (KK g) 306).scope⟩) (fd := fdG (KK g) 306) (ps := ["subject", "at", "text"]) (more := ["end"]) (by kernel_rfl) (by kernel_rfl) rfl rfl (show List.Nodup (α := Str) ["subject", "at", "text", "end"] from by decide +kernel) rfl (len3 fun a b c => by kernel_rfl) ?_
  conv => arg 4; whnf
  unfold f_chars_end
  with_reducible exact (sl_a (by kernel_rfl) (se_add (se_l (by kernel_rfl)) (se_len C (bn (by kernel_rfl)) (se_l (by kernel_rfl)))) (sl_ret (se_ite (sb_cmp (sc_eq (se_slc (se_l (by kernel_rfl)) (se_l (by kernel_rfl)) (se_l (by kernel_rfl))) (se_l (by kernel_rfl)))) (se_l (by kernel_rfl)) se_none)))
theorem p_len_end {g : G} (C : Top0 g (KK g)) (hg : g.code = code0) : FC g 1 313 3 f_len_end := by
  refine fc_of C (fi := ⟨["subject", "at", "many"], (fdG (KK g) 313).scope⟩) (fd := fdG (KK g) 313) (ps := ["subject", "at", "many"]) (more := []) (by kernel_rfl) (by kernel_rfl) rfl rfl (show List.Nodup (α := Str) ["subject", "at", "many"] from by decide +kernel) rfl (len3 fun a b c => by kernel_rfl) ?_
  conv => arg 4; whnf
  unfold f_len_end
  with_reducible exact sl_bad
theorem p_pos_end {g : G} (C : Top0 g (KK g)) (hg : g.code = code0) : FC g 1 320 2 f_pos_end := by
  refine fc_of C (fi := ⟨["at", "place"], (fdG (KK g) 320).scope⟩) (fd := fdG (KK g) 320) (ps := ["at", "place"]) (more := []) (by kernel_rfl) (by kernel_rfl) rfl rfl (show List.Nodup (α := Str) ["at", "place"] from by decide +kernel) rfl (len2 fun a b => by kernel_rfl) ?_
  conv => arg 4; whnf
  unfold f_pos_end
  with_reducible exact sl_bad
theorem p_rpos_end {g : G} (C : Top0 g (KK g)) (hg : g.code = code0) : FC g 1 327 3 f_rpos_end := by
  refine fc_of C (fi := ⟨["subject", "at", "place"], (fdG (KK g) 327).scope⟩) (fd := fdG (KK g) 327) (ps := ["subject", "at", "place"]) (more := []) (by kernel_rfl) (by kernel_rfl) rfl rfl (show List.Nodup (α := Str) ["subject", "at", "place"] from by decide +kernel) rfl (len3 fun a b c => by kernel_rfl) ?_
  conv => arg 4; whnf
  unfold f_rpos_end
  with_reducible exact (sl_ret (se_ite (sb_cmp (sc_eq (se_sub (se_len C (bn (by kernel_rfl)) (se_l (by kernel_rfl))) (se_l (by kernel_rfl))) (se_l (by kernel_rfl)))) (se_l (by kernel_rfl)) se_none))
theorem p_tab_end {g : G} (C : Top0 g (KK g)) (hg : g.code = code0) : FC g 1 334 3 f_tab_end := by
  refine fc_of C (fi := ⟨["subject", "at", "place"], (fdG (KK g) 334).scope⟩) (fd := fdG (KK g) 334) (ps := ["subject", "at", "place"]) (more := []) (by kernel_rfl) (by kernel_rfl) rfl rfl (show List.Nodup (α := Str) ["subject", "at", "place"] from by decide +kernel) rfl (len3 fun a b c => by kernel_rfl) ?_
  conv => arg 4; whnf
  unfold f_tab_end
  with_reducible exact sl_bad
theorem p_rtab_end {g : G} (C : Top0 g (KK g)) (hg : g.code = code0) : FC g 1 341 3 f_rtab_end := by
  refine fc_of C (fi := ⟨["subject", "at", "place"], (fdG (KK g) 341).scope⟩) (fd := fdG (KK g) 341) (ps := ["subject", "at", "place"]) (more := []) (by kernel_rfl) (by kernel_rfl) rfl rfl (show List.Nodup (α := Str) ["subject", "at", "place"] from by decide +kernel) rfl (len3 fun a b c => by kernel_rfl) ?_
  conv => arg 4; whnf
  unfold f_rtab_end
  with_reducible exact sl_bad
theorem p_any_at {g : G} (C : Top0 g (KK g)) (hg : g.code = code0) : FC g 1 355 3 f_any_at := by
  refine fc_of C (fi := ⟨["subject", "at", "signs"], (fdG (KK g) 355).scope⟩) (fd := fdG (KK g) 355) (ps := ["subject", "at", "signs"]) (more := []) (by kernel_rfl) (by kernel_rfl) rfl rfl (show List.Nodup (α := Str) ["subject", "at", "signs"] from by decide +kernel) rfl (len3 fun a b c => by kernel_rfl) ?_
  conv => arg 4; whnf
  unfold f_any_at
  with_reducible exact sl_bad
theorem p_notany_at {g : G} (C : Top0 g (KK g)) (hg : g.code = code0) : FC g 1 362 3 f_notany_at := by
  refine fc_of C (fi := ⟨["subject", "at", "signs"], (fdG (KK g) 362).scope⟩) (fd := fdG (KK g) 362) (ps := ["subject", "at", "signs"]) (more := []) (by kernel_rfl) (by kernel_rfl) rfl rfl (show List.Nodup (α := Str) ["subject", "at", "signs"] from by decide +kernel) rfl (len3 fun a b c => by kernel_rfl) ?_
  conv => arg 4; whnf
  unfold f_notany_at
  with_reducible exact sl_bad
theorem p_span_end {g : G} (C : Top0 g (KK g)) (hg : g.code = code0) : FC g 1 376 3 f_span_end := by
  refine fc_of C (fi := ⟨["subject", "at", "signs"], (fdG (KK g) 376).scope⟩) (fd := fdG (KK g) 376) (ps := ["subject", "at", "signs"]) (more := []) (by kernel_rfl) (by kernel_rfl) rfl rfl (show List.Nodup (α := Str) ["subject", "at", "signs"] from by decide +kernel) rfl (len3 fun a b c => by kernel_rfl) ?_
  conv => arg 4; whnf
  unfold f_span_end
  with_reducible exact sl_bad
theorem p_break_end {g : G} (C : Top0 g (KK g)) (hg : g.code = code0) : FC g 1 383 3 f_break_end := by
  refine fc_of C (fi := ⟨["subject", "at", "signs"], (fdG (KK g) 383).scope⟩) (fd := fdG (KK g) 383) (ps := ["subject", "at", "signs"]) (more := []) (by kernel_rfl) (by kernel_rfl) rfl rfl (show List.Nodup (α := Str) ["subject", "at", "signs"] from by decide +kernel) rfl (len3 fun a b c => by kernel_rfl) ?_
  conv => arg 4; whnf
  unfold f_break_end
  with_reducible exact sl_bad
theorem p_one_end {g : G} (C : Top0 g (KK g)) (hg : g.code = code0) : FC g 2 411 4 f_one_end := by
  refine fc_of C (fi := ⟨["kind", "subject", "at", "told"], (fdG (KK g) 411).scope⟩) (fd := fdG (KK g) 411) (ps := ["kind", "subject", "at", "told"]) (more := []) (by kernel_rfl) (by kernel_rfl) rfl rfl (show List.Nodup (α := Str) ["kind", "subject", "at", "told"] from by decide +kernel) rfl (len4 fun a b c d => by kernel_rfl) ?_
  conv => arg 4; whnf
  unfold f_one_end
  with_reducible exact (sl_ite (sb_cmp (sc_eq (se_l (by kernel_rfl)) (se_s (l := [99, 104, 97, 114, 115]) (by kernel_rfl) (by k_dflt exact rfl)))) (sl_ret (se_c C (by kernel_rfl) (p_chars_end C hg) (by k_dflt exact rfl) (ses_cons (se_l (by kernel_rfl)) (ses_cons (se_l (by kernel_rfl)) (ses_cons (se_l (by kernel_rfl)) ses_nil))) (by k_dflt exact rfl))) sl_nil (sl_ite (sb_cmp (sc_eq (se_l (by kernel_rfl)) (se_s (l := [108, 101, 110]) (by kernel_rfl) (by k_dflt exact rfl)))) (sl_ret (se_c C (by kernel_rfl) (p_len_end C hg) (by k_dflt exact rfl) (ses_cons (se_l (by kernel_rfl)) (ses_cons (se_l (by kernel_rfl)) (ses_cons (se_l (by kernel_rfl)) ses_nil))) (by k_dflt exact rfl))) sl_nil (sl_ite (sb_cmp (sc_eq (se_l (by kernel_rfl)) (se_s (l := [112, 111, 115]) (by kernel_rfl) (by k_dflt exact rfl)))) (sl_ret (se_c C (by kernel_rfl) (p_pos_end C hg) (by k_dflt exact rfl) (ses_cons (se_l (by kernel_rfl)) (ses_cons (se_l (by kernel_rfl)) ses_nil)) (by k_dflt exact rfl))) sl_nil (sl_ite (sb_cmp (sc_eq (se_l (by kernel_rfl)) (se_s (l := [114, 112, 111, 115]) (by kernel_rfl) (by k_dflt exact rfl)))) (sl_ret (se_c C (by kernel_rfl) (p_rpos_end C hg) (by k_dflt exact rfl) (ses_cons (se_l (by kernel_rfl)) (ses_cons (se_l (by kernel_rfl)) (ses_cons (se_l (by kernel_rfl)) ses_nil))) (by k_dflt exact rfl))) sl_nil (sl_ite (sb_cmp (sc_eq (se_l (by kernel_rfl)) (se_s (l := [116, 97, 98]) (by kernel_rfl) (by k_dflt exact rfl)))) (sl_ret (se_c C (by kernel_rfl) (p_tab_end C hg) (by k_dflt exact rfl) (ses_cons (se_l (by kernel_rfl)) (ses_cons (se_l (by kernel_rfl)) (ses_cons (se_l (by kernel_rfl)) ses_nil))) (by k_dflt exact rfl))) sl_nil (sl_ite (sb_cmp (sc_eq (se_l (by kernel_rfl)) (se_s (l := [114, 116, 97, 98]) (by kernel_rfl) (by k_dflt exact rfl)))) (sl_ret (se_c C (by kernel_rfl) (p_rtab_end C hg) (by k_dflt exact rfl) (ses_cons (se_l (by kernel_rfl)) (ses_cons (se_l (by kernel_rfl)) (ses_cons (se_l (by kernel_rfl)) ses_nil))) (by k_dflt exact rfl))) sl_nil (sl_ite (sb_cmp (sc_eq (se_l (by kernel_rfl)) (se_s (l := [97, 110, 121]) (by kernel_rfl) (by k_dflt exact rfl)))) (sl_ret (se_c C (by kernel_rfl) (p_any_at C hg) (by k_dflt exact rfl) (ses_cons (se_l (by kernel_rfl)) (ses_cons (se_l (by kernel_rfl)) (ses_cons (se_l (by kernel_rfl)) ses_nil))) (by k_dflt exact rfl))) sl_nil (sl_ite (sb_cmp (sc_eq (se_l (by kernel_rfl)) (se_s (l := [110, 111, 116, 97, 110, 121]) (by kernel_rfl) (by k_dflt exact rfl)))) (sl_ret (se_c C (by kernel_rfl) (p_notany_at C hg) (by k_dflt exact rfl) (ses_cons (se_l (by kernel_rfl)) (ses_cons (se_l (by kernel_rfl)) (ses_cons (se_l (by kernel_rfl)) ses_nil))) (by k_dflt exact rfl))) sl_nil (sl_ite (sb_cmp (sc_eq (se_l (by kernel_rfl)) (se_s (l := [115, 112, 97, 110]) (by kernel_rfl) (by k_dflt exact rfl)))) (sl_ret (se_c C (by kernel_rfl) (p_span_end C hg) (by k_dflt exact rfl) (ses_cons (se_l (by kernel_rfl)) (ses_cons (se_l (by kernel_rfl)) (ses_cons (se_l (by kernel_rfl)) ses_nil))) (by k_dflt exact rfl))) sl_nil (sl_ret (se_c C (by kernel_rfl) (p_break_end C hg) (by k_dflt exact rfl) (ses_cons (se_l (by kernel_rfl)) (ses_cons (se_l (by kernel_rfl)) (ses_cons (se_l (by kernel_rfl)) ses_nil))) (by k_dflt exact rfl))))))))))))
theorem p_plain_end {g : G} (C : Top0 g (KK g)) (hg : g.code = code0) : FC g 3 418 3 f_plain_end := by
  refine fc_of C (fi := ⟨["node", "subject", "at"], (fdG (KK g) 418).scope⟩) (fd := fdG (KK g) 418) (ps := ["node", "subject", "at"]) (more := []) (by kernel_rfl) (by kernel_rfl) rfl rfl (show List.Nodup (α := Str) ["node", "subject", "at"] from by decide +kernel) rfl (len3 fun a b c => by kernel_rfl) ?_
  conv => arg 4; whnf
  unfold f_plain_end
  with_reducible exact (sl_ret (se_ite (sb_cmp (sc_eq (se_idx0 hg (se_l (by kernel_rfl)) se_int) (se_s (l := [114, 101, 109]) (by kernel_rfl) (by k_dflt exact rfl)))) (se_c C (by kernel_rfl) (p_rem_end C hg) (by k_dflt exact rfl) (ses_cons (se_l (by kernel_rfl)) ses_nil) (by k_dflt exact rfl)) (se_c C (by kernel_rfl) (p_one_end C hg) (by k_dflt exact rfl) (ses_cons (se_idx0 hg (se_l (by kernel_rfl)) se_int) (ses_cons (se_l (by kernel_rfl)) (ses_cons (se_l (by kernel_rfl)) (ses_cons (se_idx0 hg (se_l (by kernel_rfl)) se_int) ses_nil)))) (by k_dflt exact rfl))))
theorem p_Match_met_once {g : G} (C : Top0 g (KK g)) (hg : g.code = code0) : FC g 4 495 3 f_Match_met_once := by
  refine fc_of C (fi := ⟨["self", "order", "way", "told", "node", "end"], (fdG (KK g) 495).scope⟩) (fd := fdG (KK g) 495) (ps := ["self", "order", "way"]) (more := ["told", "node", "end"]) (by kernel_rfl) (by kernel_rfl) rfl rfl (show List.Nodup (α := Str) ["self", "order", "way", "told", "node", "end"] from by decide +kernel) rfl (len3 fun a b c => by kernel_rfl) ?_
  conv => arg 4; whnf
  unfold f_Match_met_once
  with_reducible exact (sl_a (by kernel_rfl) (se_idx0 hg (se_l (by kernel_rfl)) se_int) (sl_ite (sb_val (se_isi_tuple C (bn (by kernel_rfl)) (bn (by kernel_rfl)) (se_l (by kernel_rfl)))) (sl_a (by kernel_rfl) (se_c C (by kernel_rfl) (p_settled C hg) (by k_dflt exact rfl) (ses_cons (se_tup (ses_cons (se_idx0 hg (se_l (by kernel_rfl)) se_int) (ses_cons (se_l (by kernel_rfl)) ses_nil)) (Nat.le_of_ble_eq_true (by k_dflt exact rfl))) (ses_cons (se_att C (by k_dflt exact rfl) (se_l (by kernel_rfl))) ses_nil)) (by k_dflt exact rfl)) (sl_ite (sb_cmp (sc_isN (se_l (by kernel_rfl)))) (sl_ret se_bool) sl_nil (sl_a (by kernel_rfl) (se_idx0 hg (se_l (by kernel_rfl)) se_int) sl_nil))) sl_nil (sl_a (by kernel_rfl) (se_c C (by kernel_rfl) (p_plain_end C hg) (by k_dflt exact rfl) (ses_cons (se_tup (ses_cons (se_idx0 hg (se_l (by kernel_rfl)) se_int) (ses_cons (se_l (by kernel_rfl)) ses_nil)) (Nat.le_of_ble_eq_true (by k_dflt exact rfl))) (ses_cons (se_att C (by k_dflt exact rfl) (se_l (by kernel_rfl))) (ses_cons (se_att C (by k_dflt exact rfl) (se_l (by kernel_rfl))) ses_nil))) (by k_dflt exact rfl)) (sl_ite (sb_cmp (sc_isN (se_l (by kernel_rfl)))) (sl_ret se_bool) sl_nil (sl_asgA C (by k_dflt exact rfl) (se_l (by kernel_rfl)) (se_l (by kernel_rfl)) (sl_augA C (by k_dflt exact rfl) (se_l (by kernel_rfl)) (sl_ret se_bool)))))))
theorem p_Way_copied {g : G} (C : Top0 g (KK g)) (hg : g.code = code0) : FC g 3 446 2 f_Way_copied := by
  refine fc_of C (fi := ⟨["self", "pc"], (fdG (KK g) 446).scope⟩) (fd := fdG (KK g) 446) (ps := ["self", "pc"]) (more := []) (by kernel_rfl) (by kernel_rfl) rfl rfl (show List.Nodup (α := Str) ["self", "pc"] from by decide +kernel) rfl (len2 fun a b => by kernel_rfl) ?_
  conv => arg 4; whnf
  unfold f_Way_copied
  with_reducible exact (sl_ret (se_n C (by kernel_rfl) (p_Way_init C hg) (by k_dflt exact rfl) (ses_cons (se_att C (by k_dflt exact rfl) (se_l (by kernel_rfl))) (ses_cons (se_l (by kernel_rfl)) (ses_cons (se_att C (by k_dflt exact rfl) (se_l (by kernel_rfl))) (ses_cons (se_att C (by k_dflt exact rfl) (se_l (by kernel_rfl))) (ses_cons (se_att C (by k_dflt exact rfl) (se_l (by kernel_rfl))) (ses_cons (se_att C (by k_dflt exact rfl) (se_l (by kernel_rfl))) ses_nil)))))) (by k_dflt exact rfl)))
theorem p_PlainHost_assign {g : G} (C : Top0 g (KK g)) (hg : g.code = code0) : FC g 1 572 3 f_PlainHost_assign := by
  refine fc_of C (fi := ⟨["self", "ref", "value"], (fdG (KK g) 572).scope⟩) (fd := fdG (KK g) 572) (ps := ["self", "ref", "value"]) (more := []) (by kernel_rfl) (by kernel_rfl) rfl rfl (show List.Nodup (α := Str) ["self", "ref", "value"] from by decide +kernel) rfl (len3 fun a b c => by kernel_rfl) ?_
  conv => arg 4; whnf
  unfold f_PlainHost_assign
  with_reducible exact (sl_ite (sb_cmp (sc_inL (se_att C (by k_dflt exact rfl) (se_l (by kernel_rfl))) (se_att C (by k_dflt exact rfl) (se_l (by kernel_rfl))) (by k_dflt exact rfl))) (sl_ret se_bool) sl_nil (sl_asgI (se_att C (by k_dflt exact rfl) (se_l (by kernel_rfl))) (se_att C (by k_dflt exact rfl) (se_l (by kernel_rfl))) (se_l (by kernel_rfl)) (sl_ex (se_app (se_att C (by k_dflt exact rfl) (se_l (by kernel_rfl))) (se_tup (ses_cons (se_att C (by k_dflt exact rfl) (se_l (by kernel_rfl))) (ses_cons (se_l (by kernel_rfl)) ses_nil)) (Nat.le_of_ble_eq_true (by k_dflt exact rfl))) (by k_dflt exact fun _ => ⟨_, rfl⟩)) (sl_ret se_bool))))
theorem p_Match_ended {g : G} (C : Top0 g (KK g)) (hg : g.code = code0) : FC g 2 502 3 f_Match_ended := by
  refine fc_of C (fi := ⟨["self", "order", "way", "marks", "begin", "text"], (fdG (KK g) 502).scope⟩) (fd := fdG (KK g) 502) (ps := ["self", "order", "way"]) (more := ["marks", "begin", "text"]) (by kernel_rfl) (by kernel_rfl) rfl rfl (show List.Nodup (α := Str) ["self", "order", "way", "marks", "begin", "text"] from by decide +kernel) rfl (len3 fun a b c => by kernel_rfl) ?_
  conv => arg 4; whnf
  unfold f_Match_ended
  with_reducible exact (sl_asgT2 (by kernel_rfl) (se_att C (by k_dflt exact rfl) (se_l (by kernel_rfl))) (sl_asgA C (by k_dflt exact rfl) (se_l (by kernel_rfl)) (se_l (by kernel_rfl)) (sl_a (by kernel_rfl) (se_slc (se_att C (by k_dflt exact rfl) (se_l (by kernel_rfl))) (se_l (by kernel_rfl)) (se_att C (by k_dflt exact rfl) (se_l (by kernel_rfl)))) (sl_ite (sb_cmp (sc_eq (se_idx0 hg (se_l (by kernel_rfl)) se_int) (se_gs C (by kernel_rfl)))) (sl_ret (se_cmp (sc_gt (se_att C (by k_dflt exact rfl) (se_l (by kernel_rfl))) (se_l (by kernel_rfl))))) sl_nil (sl_ite (sb_cmp (sc_eq (se_idx0 hg (se_l (by kernel_rfl)) se_int) (se_gs C (by kernel_rfl)))) (sl_ret (se_mth C (by kernel_rfl) (p_PlainHost_assign C hg) (Nat.le_of_ble_eq_true (by k_dflt exact rfl)) (se_att C (by k_dflt exact rfl) (se_l (by kernel_rfl))) (ses_cons (se_idx0 hg (se_l (by kernel_rfl)) se_int) (ses_cons (se_l (by kernel_rfl)) ses_nil)) (by k_dflt exact rfl) (by k_dflt exact fun _ => ⟨_, rfl⟩))) sl_nil (sl_asgA C (by k_dflt exact rfl) (se_l (by kernel_rfl)) (se_tup (ses_cons (se_att C (by k_dflt exact rfl) (se_l (by kernel_rfl))) (ses_cons (se_tup (ses_cons (se_idx0 hg (se_l (by kernel_rfl)) se_int) (ses_cons (se_l (by kernel_rfl)) ses_nil)) (Nat.le_of_ble_eq_true (by k_dflt exact rfl))) ses_nil)) (Nat.le_of_ble_eq_true (by k_dflt exact rfl))) (sl_ret se_bool)))))) (by k_dflt exact fun _ => rfl) (by k_dflt exact fun _ _ => rfl))
theorem p_Match_met_often {g : G} (C : Top0 g (KK g)) (hg : g.code = code0) : FC g 1 516 3 f_Match_met_often := by
  refine fc_of C (fi := ⟨["self", "way", "ends"], (fdG (KK g) 516).scope⟩) (fd := fdG (KK g) 516) (ps := ["self", "way", "ends"]) (more := []) (by kernel_rfl) (by kernel_rfl) rfl rfl (show List.Nodup (α := Str) ["self", "way", "ends"] from by decide +kernel) rfl (len3 fun a b c => by kernel_rfl) ?_
  conv => arg 4; whnf
  unfold f_Match_met_often
  with_reducible exact sl_bad
theorem p_ends_of {g : G} (C : Top0 g (KK g)) (hg : g.code = code0) : FC g 1 425 4 f_ends_of := by
  refine fc_of C (fi := ⟨["kind", "subject", "at", "told"], (fdG (KK g) 425).scope⟩) (fd := fdG (KK g) 425) (ps := ["kind", "subject", "at", "told"]) (more := []) (by kernel_rfl) (by kernel_rfl) rfl rfl (show List.Nodup (α := Str) ["kind", "subject", "at", "told"] from by decide +kernel) rfl (len4 fun a b c d => by kernel_rfl) ?_
  conv => arg 4; whnf
  unfold f_ends_of
  with_reducible exact sl_bad
theorem p_Match_asked {g : G} (C : Top0 g (KK g)) (hg : g.code = code0) : FC g 1 523 3 f_Match_asked := by
  refine fc_of C (fi := ⟨["self", "tree", "way"], (fdG (KK g) 523).scope⟩) (fd := fdG (KK g) 523) (ps := ["self", "tree", "way"]) (more := []) (by kernel_rfl) (by kernel_rfl) rfl rfl (show List.Nodup (α := Str) ["self", "tree", "way"] from by decide +kernel) rfl (len3 fun a b c => by kernel_rfl) ?_
  conv => arg 4; whnf
  unfold f_Match_asked
  with_reducible exact sl_bad
theorem p_Match_other {g : G} (C : Top0 g (KK g)) (hg : g.code = code0) : FC g 4 509 3 f_Match_other := by
  refine fc_of C (fi := ⟨["self", "order", "way", "word"], (fdG (KK g) 509).scope⟩) (fd := fdG (KK g) 509) (ps := ["self", "order", "way"]) (more := ["word"]) (by kernel_rfl) (by kernel_rfl) rfl rfl (show List.Nodup (α := Str) ["self", "order", "way", "word"] from by decide +kernel) rfl (len3 fun a b c => by kernel_rfl) ?_
  conv => arg 4; whnf
  unfold f_Match_other
  with_reducible exact (sl_a (by kernel_rfl) (se_idx0 hg (se_l (by kernel_rfl)) se_int) (sl_ite (sb_cmp (sc_eq (se_l (by kernel_rfl)) (se_gs C (by kernel_rfl)))) (sl_ret se_bool) sl_nil (sl_ite (sb_cmp (sc_eq (se_l (by kernel_rfl)) (se_gs C (by kernel_rfl)))) (sl_ret (se_mth C (by kernel_rfl) (p_Match_met_often C hg) (Nat.le_of_ble_eq_true (by k_dflt exact rfl)) (se_l (by kernel_rfl)) (ses_cons (se_l (by kernel_rfl)) (ses_cons (se_c C (by kernel_rfl) (p_ends_of C hg) (by k_dflt exact rfl) (ses_cons (se_idx0 hg (se_l (by kernel_rfl)) se_int) (ses_cons (se_att C (by k_dflt exact rfl) (se_l (by kernel_rfl))) (ses_cons (se_att C (by k_dflt exact rfl) (se_l (by kernel_rfl))) (ses_cons se_none ses_nil)))) (by k_dflt exact rfl)) ses_nil)) (by k_dflt exact rfl) (by k_dflt exact fun _ => ⟨_, rfl⟩))) sl_nil (sl_ite (sb_cmp (sc_eq (se_l (by kernel_rfl)) (se_gs C (by kernel_rfl)))) (sl_ret (se_mth C (by kernel_rfl) (p_Match_asked C hg) (Nat.le_of_ble_eq_true (by k_dflt exact rfl)) (se_l (by kernel_rfl)) (ses_cons (se_idx0 hg (se_l (by kernel_rfl)) se_int) (ses_cons (se_l (by kernel_rfl)) ses_nil)) (by k_dflt exact rfl) (by k_dflt exact fun _ => ⟨_, rfl⟩))) sl_nil (sl_ite (sb_cmp (sc_eq (se_l (by kernel_rfl)) (se_gs C (by kernel_rfl)))) sl_bad sl_nil (sl_ite (sb_cmp (sc_eq (se_l (by kernel_rfl)) (se_gs C (by kernel_rfl)))) (sl_ex (se_app (se_att C (by k_dflt exact rfl) (se_l (by kernel_rfl))) (se_n C (by kernel_rfl) (p_Way_init C hg) (by k_dflt exact rfl) (ses_cons se_none (ses_cons se_int (ses_cons se_int (ses_cons se_none (ses_cons se_none (ses_cons se_none ses_nil)))))) (by k_dflt exact rfl)) (by k_dflt exact fun _ => ⟨_, rfl⟩)) sl_nil) (sl_ite (sb_cmp (sc_eq (se_l (by kernel_rfl)) (se_gs C (by kernel_rfl)))) (sl_ex (se_app (se_att C (by k_dflt exact rfl) (se_l (by kernel_rfl))) (se_mth C (by kernel_rfl) (p_Way_copied C hg) (Nat.le_of_ble_eq_true (by k_dflt exact rfl)) (se_l (by kernel_rfl)) (ses_cons (se_att C (by k_dflt exact rfl) (se_l (by kernel_rfl))) ses_nil) (by k_dflt exact rfl) (by k_dflt exact fun _ => ⟨_, rfl⟩)) (by k_dflt exact fun _ => ⟨_, rfl⟩)) sl_nil) sl_nil sl_nil) (sl_augA C (by k_dflt exact rfl) (se_l (by kernel_rfl)) (sl_ret se_bool))))))))
theorem p_Match_done {g : G} (C : Top0 g (KK g)) (hg : g.code = code0) : FC g 5 488 3 f_Match_done := by
  refine fc_of C (fi := ⟨["self", "order", "way", "word"], (fdG (KK g) 488).scope⟩) (fd := fdG (KK g) 488) (ps := ["self", "order", "way"]) (more := ["word"]) (by kernel_rfl) (by kernel_rfl) rfl rfl (show List.Nodup (α := Str) ["self", "order", "way", "word"] from by decide +kernel) rfl (len3 fun a b c => by kernel_rfl) ?_
  conv => arg 4; whnf
  unfold f_Match_done
  with_reducible exact (sl_a (by kernel_rfl) (se_idx0 hg (se_l (by kernel_rfl)) se_int) (sl_ite (sb_cmp (sc_eq (se_l (by kernel_rfl)) (se_gs C (by kernel_rfl)))) (sl_ret (se_mth C (by kernel_rfl) (p_Match_met_once C hg) (Nat.le_of_ble_eq_true (by k_dflt exact rfl)) (se_l (by kernel_rfl)) (ses_cons (se_l (by kernel_rfl)) (ses_cons (se_l (by kernel_rfl)) ses_nil)) (by k_dflt exact rfl) (by k_dflt exact fun _ => ⟨_, rfl⟩))) sl_nil (sl_ite (sb_cmp (sc_eq (se_l (by kernel_rfl)) (se_gs C (by kernel_rfl)))) (sl_ex (se_app (se_att C (by k_dflt exact rfl) (se_l (by kernel_rfl))) (se_mth C (by kernel_rfl) (p_Way_copied C hg) (Nat.le_of_ble_eq_true (by k_dflt exact rfl)) (se_l (by kernel_rfl)) (ses_cons (se_idx0 hg (se_l (by kernel_rfl)) se_int) ses_nil) (by k_dflt exact rfl) (by k_dflt exact fun _ => ⟨_, rfl⟩)) (by k_dflt exact fun _ => ⟨_, rfl⟩)) sl_nil) (sl_ite (sb_cmp (sc_eq (se_l (by kernel_rfl)) (se_gs C (by kernel_rfl)))) (sl_asgA C (by k_dflt exact rfl) (se_l (by kernel_rfl)) (se_idx0 hg (se_l (by kernel_rfl)) se_int) (sl_ret se_bool)) (sl_ite (sb_cmp (sc_eq (se_l (by kernel_rfl)) (se_gs C (by kernel_rfl)))) (sl_asgA C (by k_dflt exact rfl) (se_l (by kernel_rfl)) (se_tup (ses_cons (se_att C (by k_dflt exact rfl) (se_l (by kernel_rfl))) (ses_cons (se_att C (by k_dflt exact rfl) (se_l (by kernel_rfl))) ses_nil)) (Nat.le_of_ble_eq_true (by k_dflt exact rfl))) sl_nil) (sl_ite (sb_cmp (sc_inT (se_l (by kernel_rfl)) (ses_cons (se_gs C (by kernel_rfl)) (ses_cons (se_gs C (by kernel_rfl)) (ses_cons (se_gs C (by kernel_rfl)) ses_nil))) (by k_dflt exact fun _ _ _ => rfl) (Nat.le_of_ble_eq_true (by k_dflt exact rfl)))) (sl_ite (sb_not (sb_val (se_mth C (by kernel_rfl) (p_Match_ended C hg) (Nat.le_of_ble_eq_true (by k_dflt exact rfl)) (se_l (by kernel_rfl)) (ses_cons (se_l (by kernel_rfl)) (ses_cons (se_l (by kernel_rfl)) ses_nil)) (by k_dflt exact rfl) (by k_dflt exact fun _ => ⟨_, rfl⟩)))) (sl_ret se_bool) sl_nil sl_nil) (sl_ite (sb_cmp (sc_eq (se_l (by kernel_rfl)) (se_gs C (by kernel_rfl)))) (sl_ite (sb_not (sb_val (se_mth C (by kernel_rfl) (p_PlainHost_assign C hg) (Nat.le_of_ble_eq_true (by k_dflt exact rfl)) (se_att C (by k_dflt exact rfl) (se_l (by kernel_rfl))) (ses_cons (se_idx0 hg (se_l (by kernel_rfl)) se_int) (ses_cons (se_att C (by k_dflt exact rfl) (se_l (by kernel_rfl))) ses_nil)) (by k_dflt exact rfl) (by k_dflt exact fun _ => ⟨_, rfl⟩)))) (sl_ret se_bool) sl_nil sl_nil) (sl_ret (se_mth C (by kernel_rfl) (p_Match_other C hg) (Nat.le_of_ble_eq_true (by k_dflt exact rfl)) (se_l (by kernel_rfl)) (ses_cons (se_l (by kernel_rfl)) (ses_cons (se_l (by kernel_rfl)) ses_nil)) (by k_dflt exact rfl) (by k_dflt exact fun _ => ⟨_, rfl⟩))) sl_nil) sl_nil) sl_nil) sl_nil) (sl_augA C (by k_dflt exact rfl) (se_l (by kernel_rfl)) (sl_ret se_bool)))))
theorem p_Match_way_back {g : G} (C : Top0 g (KK g)) (hg : g.code = code0) : FC g 1 481 1 f_Match_way_back := by
  refine fc_of C (fi := ⟨["self"], (fdG (KK g) 481).scope⟩) (fd := fdG (KK g) 481) (ps := ["self"]) (more := []) (by kernel_rfl) (by kernel_rfl) rfl rfl (show List.Nodup (α := Str) ["self"] from by decide +kernel) rfl (len1 fun a => by kernel_rfl) ?_
  conv => arg 4; whnf
  unfold f_Match_way_back
  with_reducible exact (sl_ret (se_ite (sb_cmp (sc_gt (se_len C (bn (by kernel_rfl)) (se_att C (by k_dflt exact rfl) (se_l (by kernel_rfl)))) se_int)) (se_pop (se_att C (by k_dflt exact rfl) (se_l (by kernel_rfl))) (by k_dflt exact fun _ => ⟨_, rfl⟩)) se_none))
theorem p_Match_run {g : G} (C : Top0 g (KK g)) (hg : g.code = code0) : FC g 6 474 3 f_Match_run := by
  refine fc_of C (fi := ⟨["self", "orders", "begin", "way", "order"], (fdG (KK g) 474).scope⟩) (fd := fdG (KK g) 474) (ps := ["self", "orders", "begin"]) (more := ["way", "order"]) (by kernel_rfl) (by kernel_rfl) rfl rfl (show List.Nodup (α := Str) ["self", "orders", "begin", "way", "order"] from by decide +kernel) rfl (len3 fun a b c => by kernel_rfl) ?_
  conv => arg 4; whnf
  unfold f_Match_run
  with_reducible exact (sl_a (by kernel_rfl) (se_n C (by kernel_rfl) (p_Way_init C hg) (by k_dflt exact rfl) (ses_cons (se_l (by kernel_rfl)) (ses_cons se_int (ses_cons (se_l (by kernel_rfl)) (ses_cons se_none (ses_cons se_none (ses_cons se_none ses_nil)))))) (by k_dflt exact rfl)) (sl_whl (sb_cmp (sc_notN (se_l (by kernel_rfl)))) (sl_ex (se_mth0 C (by kernel_rfl) (p_PlainHost_step C hg) (Nat.le_of_ble_eq_true (by k_dflt exact rfl)) (se_att C (by k_dflt exact rfl) (se_l (by kernel_rfl))) (by k_dflt exact fun _ => ⟨_, rfl⟩)) (sl_a (by kernel_rfl) (se_idx0 hg (se_att C (by k_dflt exact rfl) (se_l (by kernel_rfl))) (se_att C (by k_dflt exact rfl) (se_l (by kernel_rfl)))) (sl_ite (sb_and (sb_cmp (sc_eq (se_idx0 hg (se_l (by kernel_rfl)) se_int) (se_gs C (by kernel_rfl)))) (sb_cmp (sc_isN (se_att C (by k_dflt exact rfl) (se_l (by kernel_rfl)))))) (sl_ret (se_tup (ses_cons (se_gi C (by kernel_rfl)) (ses_cons (se_l (by kernel_rfl)) ses_nil)) (Nat.le_of_ble_eq_true (by k_dflt exact rfl)))) sl_nil (sl_ite (sb_cmp (sc_eq (se_idx0 hg (se_l (by kernel_rfl)) se_int) (se_gs C (by kernel_rfl)))) (sl_ret (se_tup (ses_cons (se_gi C (by kernel_rfl)) (ses_cons se_none ses_nil)) (Nat.le_of_ble_eq_true (by k_dflt exact rfl)))) sl_nil (sl_ite (sb_not (sb_val (se_mth C (by kernel_rfl) (p_Match_done C hg) (Nat.le_of_ble_eq_true (by k_dflt exact rfl)) (se_l (by kernel_rfl)) (ses_cons (se_l (by kernel_rfl)) (ses_cons (se_l (by kernel_rfl)) ses_nil)) (by k_dflt exact rfl) (by k_dflt exact fun _ => ⟨_, rfl⟩)))) (sl_a (by kernel_rfl) (se_mth0 C (by kernel_rfl) (p_Match_way_back C hg) (Nat.le_of_ble_eq_true (by k_dflt exact rfl)) (se_l (by kernel_rfl)) (by k_dflt exact fun _ => ⟨_, rfl⟩)) (sl_ite (sb_and (sb_cmp (sc_notN (se_l (by kernel_rfl)))) (sb_cmp (sc_isN (se_att C (by k_dflt exact rfl) (se_l (by kernel_rfl)))))) (sl_ret (se_tup (ses_cons (se_gi C (by kernel_rfl)) (ses_cons se_none ses_nil)) (Nat.le_of_ble_eq_true (by k_dflt exact rfl)))) sl_nil sl_nil)) sl_nil sl_nil))))) (sl_ret (se_tup (ses_cons (se_gi C (by kernel_rfl)) (ses_cons se_none ses_nil)) (Nat.le_of_ble_eq_true (by k_dflt exact rfl))))))
theorem p_Match_init {g : G} (C : Top0 g (KK g)) (hg : g.code = code0) : FC g 1 467 3 f_Match_init := by
  refine fc_of C (fi := ⟨["self", "subject", "host"], (fdG (KK g) 467).scope⟩) (fd := fdG (KK g) 467) (ps := ["self", "subject", "host"]) (more := []) (by kernel_rfl) (by kernel_rfl) rfl rfl (show List.Nodup (α := Str) ["self", "subject", "host"] from by decide +kernel) rfl (len3 fun a b c => by kernel_rfl) ?_
  conv => arg 4; whnf
  unfold f_Match_init
  with_reducible exact (sl_asgA C (by k_dflt exact rfl) (se_l (by kernel_rfl)) (se_l (by kernel_rfl)) (sl_asgA C (by k_dflt exact rfl) (se_l (by kernel_rfl)) (se_l (by kernel_rfl)) (sl_asgA C (by k_dflt exact rfl) (se_l (by kernel_rfl)) (se_lst ses_nil (Nat.le_of_ble_eq_true (by k_dflt exact rfl))) sl_nil)))
theorem p_named_rows {g : G} (C : Top0 g (KK g)) (hg : g.code = code0) : FC g 1 537 1 f_named_rows := by
  refine fc_of C (fi := ⟨["named", "found", "last"], (fdG (KK g) 537).scope⟩) (fd := fdG (KK g) 537) (ps := ["named"]) (more := ["found", "last"]) (by kernel_rfl) (by kernel_rfl) rfl rfl (show List.Nodup (α := Str) ["named", "found", "last"] from by decide +kernel) rfl (len1 fun a => by kernel_rfl) ?_
  conv => arg 4; whnf
  unfold f_named_rows
  with_reducible exact (sl_a (by kernel_rfl) (se_lst ses_nil (Nat.le_of_ble_eq_true (by k_dflt exact rfl))) (sl_whl (sb_cmp (sc_notN (se_l (by kernel_rfl)))) (sl_asgT2 (by kernel_rfl) (se_l (by kernel_rfl)) (sl_ex (se_app (se_l (by kernel_rfl)) (se_l (by kernel_rfl)) (by k_dflt exact fun _ => ⟨_, rfl⟩)) sl_nil) (by k_dflt exact fun _ => rfl) (by k_dflt exact fun _ _ => rfl)) (sl_ex (se_rev (se_l (by kernel_rfl)) (by k_dflt exact fun _ => ⟨_, rfl⟩)) (sl_ret (se_l (by kernel_rfl))))))
theorem p_match_orders {g : G} (C : Top0 g (KK g)) (hg : g.code = code0) : FC g 7 544 4 f_match_orders := by
  refine fc_of C (fi := ⟨["orders", "subject", "is_anchored", "host", "begin", "how", "way"], (fdG (KK g) 544).scope⟩) (fd := fdG (KK g) 544) (ps := ["orders", "subject", "is_anchored", "host"]) (more := ["begin", "how", "way"]) (by kernel_rfl) (by kernel_rfl) rfl rfl (show List.Nodup (α := Str) ["orders", "subject", "is_anchored", "host", "begin", "how", "way"] from by decide +kernel) rfl (len4 fun a b c d => by kernel_rfl) ?_
  conv => arg 4; whnf
  unfold f_match_orders
  with_reducible exact (sl_forR C (bn (by kernel_rfl)) (by kernel_rfl) (se_ite (sb_val (se_l (by kernel_rfl))) se_int (se_add (se_len C (bn (by kernel_rfl)) (se_l (by kernel_rfl))) se_int)) (sl_asgT2 (by kernel_rfl) (se_mth C (by kernel_rfl) (p_Match_run C hg) (Nat.le_of_ble_eq_true (by k_dflt exact rfl)) (se_n C (by kernel_rfl) (p_Match_init C hg) (by k_dflt exact rfl) (ses_cons (se_l (by kernel_rfl)) (ses_cons (se_l (by kernel_rfl)) ses_nil)) (by k_dflt exact rfl)) (ses_cons (se_l (by kernel_rfl)) (ses_cons (se_l (by kernel_rfl)) ses_nil)) (by k_dflt exact rfl) (by k_dflt exact fun _ => ⟨_, rfl⟩)) (sl_ite (sb_cmp (sc_eq (se_l (by kernel_rfl)) (se_gi C (by kernel_rfl)))) (sl_ret (se_tup (ses_cons (se_l (by kernel_rfl)) (ses_cons (se_att C (by k_dflt exact rfl) (se_l (by kernel_rfl))) (ses_cons (se_c C (by kernel_rfl) (p_named_rows C hg) (by k_dflt exact rfl) (ses_cons (se_att C (by k_dflt exact rfl) (se_l (by kernel_rfl))) ses_nil) (by k_dflt exact rfl)) ses_nil))) (Nat.le_of_ble_eq_true (by k_dflt exact rfl)))) sl_nil (sl_ite (sb_cmp (sc_eq (se_l (by kernel_rfl)) (se_gi C (by kernel_rfl)))) (sl_ret se_none) sl_nil sl_nil)) (by k_dflt exact fun _ => rfl) (by k_dflt exact fun _ _ => rfl)) (sl_ret se_none))
theorem p_law_met {g : G} (C : Top0 g (KK g)) (hg : g.code = code0) : FC g 8 614 2 f_law_met := by
  refine fc_of C (fi := ⟨["orders", "row"], (fdG (KK g) 614).scope⟩) (fd := fdG (KK g) 614) (ps := ["orders", "row"]) (more := []) (by kernel_rfl) (by kernel_rfl) rfl rfl (show List.Nodup (α := Str) ["orders", "row"] from by decide +kernel) rfl (len2 fun a b => by kernel_rfl) ?_
  conv => arg 4; whnf
  unfold f_law_met
  with_reducible exact (sl_ret (se_cmp (sc_notN (se_c C (by kernel_rfl) (p_match_orders C hg) (by k_dflt exact rfl) (ses_cons (se_l (by kernel_rfl)) (ses_cons (se_l (by kernel_rfl)) (ses_cons se_bool (ses_cons (se_n C (by kernel_rfl) (p_PlainHost_init C hg) (by k_dflt exact rfl) (ses_cons se_dct (ses_cons se_int (ses_cons (se_lst ses_nil (Nat.le_of_ble_eq_true (by k_dflt exact rfl))) ses_nil))) (by k_dflt exact rfl)) ses_nil)))) (by k_dflt exact rfl)))))
theorem p_law_row {g : G} (C : Top0 g (KK g)) (hg : g.code = code0) : FC g 1 593 1 f_law_row := by
  refine fc_of C (fi := ⟨["parts", "node", "part"], (fdG (KK g) 593).scope⟩) (fd := fdG (KK g) 593) (ps := ["parts"]) (more := ["node", "part"]) (by kernel_rfl) (by kernel_rfl) rfl rfl (show List.Nodup (α := Str) ["parts", "node", "part"] from by decide +kernel) rfl (len1 fun a => by kernel_rfl) ?_
  conv => arg 4; whnf
  unfold f_law_row
  with_reducible exact (sl_a (by kernel_rfl) (se_ite (sb_val (se_isi_tuple C (bn (by kernel_rfl)) (bn (by kernel_rfl)) (se_last (se_l (by kernel_rfl))))) (se_last (se_l (by kernel_rfl))) (se_tup (ses_cons (se_s (l := [99, 104, 97, 114, 115]) (by kernel_rfl) (by k_dflt exact rfl)) (ses_cons (se_last (se_l (by kernel_rfl))) ses_nil)) (Nat.le_of_ble_eq_true (by k_dflt exact rfl)))) (sl_for (by kernel_rfl) (se_back2 (se_l (by kernel_rfl))) (sl_a (by kernel_rfl) (se_tup (ses_cons (se_s (l := [99, 97, 116]) (by kernel_rfl) (by k_dflt exact rfl)) (ses_cons (se_ite (sb_val (se_isi_tuple C (bn (by kernel_rfl)) (bn (by kernel_rfl)) (se_l (by kernel_rfl)))) (se_l (by kernel_rfl)) (se_tup (ses_cons (se_s (l := [99, 104, 97, 114, 115]) (by kernel_rfl) (by k_dflt exact rfl)) (ses_cons (se_l (by kernel_rfl)) ses_nil)) (Nat.le_of_ble_eq_true (by k_dflt exact rfl)))) (ses_cons (se_l (by kernel_rfl)) ses_nil))) (Nat.le_of_ble_eq_true (by k_dflt exact rfl))) sl_nil) (sl_ret (se_l (by kernel_rfl)))))
theorem p_law_any {g : G} (C : Top0 g (KK g)) (hg : g.code = code0) : FC g 1 600 1 f_law_any := by
  refine fc_of C (fi := ⟨["parts", "node", "part"], (fdG (KK g) 600).scope⟩) (fd := fdG (KK g) 600) (ps := ["parts"]) (more := ["node", "part"]) (by kernel_rfl) (by kernel_rfl) rfl rfl (show List.Nodup (α := Str) ["parts", "node", "part"] from by decide +kernel) rfl (len1 fun a => by kernel_rfl) ?_
  conv => arg 4; whnf
  unfold f_law_any
  with_reducible exact (sl_a (by kernel_rfl) (se_last (se_l (by kernel_rfl))) (sl_for (by kernel_rfl) (se_back2 (se_l (by kernel_rfl))) (sl_a (by kernel_rfl) (se_tup (ses_cons (se_s (l := [97, 108, 116]) (by kernel_rfl) (by k_dflt exact rfl)) (ses_cons (se_l (by kernel_rfl)) (ses_cons (se_l (by kernel_rfl)) ses_nil))) (Nat.le_of_ble_eq_true (by k_dflt exact rfl))) sl_nil) (sl_ret (se_l (by kernel_rfl)))))
theorem p_law_pattern {g : G} (C : Top0 g (KK g)) (hg : g.code = code0) : FC g 2 607 0 f_law_pattern := by
  refine fc_of C (fi := ⟨["noughts", "ones", "left", "right", "middle", "rows"], (fdG (KK g) 607).scope⟩) (fd := fdG (KK g) 607) (ps := []) (more := ["noughts", "ones", "left", "right", "middle", "rows"]) (by kernel_rfl) (by kernel_rfl) rfl rfl (show List.Nodup (α := Str) ["noughts", "ones", "left", "right", "middle", "rows"] from by decide +kernel) rfl (len0 (by kernel_rfl)) ?_
  conv => arg 4; whnf
  unfold f_law_pattern
  with_reducible exact (sl_asgT2 (by kernel_rfl) (se_tup (ses_cons (se_tup (ses_cons (se_s (l := [97, 114, 98, 110, 111]) (by kernel_rfl) (by k_dflt exact rfl)) (ses_cons (se_tup (ses_cons (se_s (l := [99, 104, 97, 114, 115]) (by kernel_rfl) (by k_dflt exact rfl)) (ses_cons (se_s (l := [48]) (by kernel_rfl) (by k_dflt exact rfl)) ses_nil)) (Nat.le_of_ble_eq_true (by k_dflt exact rfl))) ses_nil)) (Nat.le_of_ble_eq_true (by k_dflt exact rfl))) (ses_cons (se_tup (ses_cons (se_s (l := [97, 114, 98, 110, 111]) (by kernel_rfl) (by k_dflt exact rfl)) (ses_cons (se_tup (ses_cons (se_s (l := [99, 104, 97, 114, 115]) (by kernel_rfl) (by k_dflt exact rfl)) (ses_cons (se_s (l := [49, 49]) (by kernel_rfl) (by k_dflt exact rfl)) ses_nil)) (Nat.le_of_ble_eq_true (by k_dflt exact rfl))) ses_nil)) (Nat.le_of_ble_eq_true (by k_dflt exact rfl))) ses_nil)) (Nat.le_of_ble_eq_true (by k_dflt exact rfl))) (sl_asgT2 (by kernel_rfl) (se_tup (ses_cons (se_tup (ses_cons (se_s (l := [97, 114, 98, 110, 111]) (by kernel_rfl) (by k_dflt exact rfl)) (ses_cons (se_tup (ses_cons (se_s (l := [99, 104, 97, 114, 115]) (by kernel_rfl) (by k_dflt exact rfl)) (ses_cons (se_s (l := [48, 49]) (by kernel_rfl) (by k_dflt exact rfl)) ses_nil)) (Nat.le_of_ble_eq_true (by k_dflt exact rfl))) ses_nil)) (Nat.le_of_ble_eq_true (by k_dflt exact rfl))) (ses_cons (se_tup (ses_cons (se_s (l := [97, 114, 98, 110, 111]) (by kernel_rfl) (by k_dflt exact rfl)) (ses_cons (se_tup (ses_cons (se_s (l := [99, 104, 97, 114, 115]) (by kernel_rfl) (by k_dflt exact rfl)) (ses_cons (se_s (l := [49, 48]) (by kernel_rfl) (by k_dflt exact rfl)) ses_nil)) (Nat.le_of_ble_eq_true (by k_dflt exact rfl))) ses_nil)) (Nat.le_of_ble_eq_true (by k_dflt exact rfl))) ses_nil)) (Nat.le_of_ble_eq_true (by k_dflt exact rfl))) (sl_a (by kernel_rfl) (se_c C (by kernel_rfl) (p_law_any C hg) (by k_dflt exact rfl) (ses_cons (se_lst (ses_cons (se_c C (by kernel_rfl) (p_law_row C hg) (by k_dflt exact rfl) (ses_cons (se_lst (ses_cons (se_s (l := [48, 48]) (by kernel_rfl) (by k_dflt exact rfl)) (ses_cons (se_l (by kernel_rfl)) ses_nil)) (Nat.le_of_ble_eq_true (by k_dflt exact rfl))) ses_nil) (by k_dflt exact rfl)) (ses_cons (se_c C (by kernel_rfl) (p_law_row C hg) (by k_dflt exact rfl) (ses_cons (se_lst (ses_cons (se_l (by kernel_rfl)) (ses_cons (se_s (l := [48, 48]) (by kernel_rfl) (by k_dflt exact rfl)) ses_nil)) (Nat.le_of_ble_eq_true (by k_dflt exact rfl))) ses_nil) (by k_dflt exact rfl)) (ses_cons (se_c C (by kernel_rfl) (p_law_row C hg) (by k_dflt exact rfl) (ses_cons (se_lst (ses_cons (se_l (by kernel_rfl)) (ses_cons (se_s (l := [49, 48, 49, 49]) (by kernel_rfl) (by k_dflt exact rfl)) ses_nil)) (Nat.le_of_ble_eq_true (by k_dflt exact rfl))) ses_nil) (by k_dflt exact rfl)) (ses_cons (se_c C (by kernel_rfl) (p_law_row C hg) (by k_dflt exact rfl) (ses_cons (se_lst (ses_cons (se_s (l := [49, 49, 48, 49]) (by kernel_rfl) (by k_dflt exact rfl)) (ses_cons (se_l (by kernel_rfl)) ses_nil)) (Nat.le_of_ble_eq_true (by k_dflt exact rfl))) ses_nil) (by k_dflt exact rfl)) ses_nil)))) (Nat.le_of_ble_eq_true (by k_dflt exact rfl))) ses_nil) (by k_dflt exact rfl)) (sl_a (by kernel_rfl) (se_lst (ses_cons (se_tup (ses_cons (se_s (l := [99, 104, 97, 114, 115]) (by kernel_rfl) (by k_dflt exact rfl)) (ses_cons (se_s (l := [49]) (by kernel_rfl) (by k_dflt exact rfl)) ses_nil)) (Nat.le_of_ble_eq_true (by k_dflt exact rfl))) (ses_cons (se_tup (ses_cons (se_s (l := [99, 104, 97, 114, 115]) (by kernel_rfl) (by k_dflt exact rfl)) (ses_cons (se_s (l := [48, 49, 49]) (by kernel_rfl) (by k_dflt exact rfl)) ses_nil)) (Nat.le_of_ble_eq_true (by k_dflt exact rfl))) (ses_cons (se_tup (ses_cons (se_s (l := [99, 104, 97, 114, 115]) (by kernel_rfl) (by k_dflt exact rfl)) (ses_cons (se_s (l := [49, 49, 48]) (by kernel_rfl) (by k_dflt exact rfl)) ses_nil)) (Nat.le_of_ble_eq_true (by k_dflt exact rfl))) (ses_cons (se_c C (by kernel_rfl) (p_law_row C hg) (by k_dflt exact rfl) (ses_cons (se_lst (ses_cons (se_s (l := [49, 49]) (by kernel_rfl) (by k_dflt exact rfl)) (ses_cons (se_l (by kernel_rfl)) (ses_cons (se_l (by kernel_rfl)) (ses_cons (se_l (by kernel_rfl)) (ses_cons (se_s (l := [49, 49]) (by kernel_rfl) (by k_dflt exact rfl)) ses_nil))))) (Nat.le_of_ble_eq_true (by k_dflt exact rfl))) ses_nil) (by k_dflt exact rfl)) ses_nil)))) (Nat.le_of_ble_eq_true (by k_dflt exact rfl))) (sl_ex (se_ext (se_l (by kernel_rfl)) (se_lst (ses_cons (se_c C (by kernel_rfl) (p_law_row C hg) (by k_dflt exact rfl) (ses_cons (se_lst (ses_cons (se_s (l := [49, 49]) (by kernel_rfl) (by k_dflt exact rfl)) (ses_cons (se_l (by kernel_rfl)) (ses_cons (se_l (by kernel_rfl)) (ses_cons (se_s (l := [48, 49]) (by kernel_rfl) (by k_dflt exact rfl)) ses_nil)))) (Nat.le_of_ble_eq_true (by k_dflt exact rfl))) ses_nil) (by k_dflt exact rfl)) (ses_cons (se_c C (by kernel_rfl) (p_law_row C hg) (by k_dflt exact rfl) (ses_cons (se_lst (ses_cons (se_s (l := [49, 48]) (by kernel_rfl) (by k_dflt exact rfl)) (ses_cons (se_l (by kernel_rfl)) (ses_cons (se_l (by kernel_rfl)) (ses_cons (se_s (l := [49, 49]) (by kernel_rfl) (by k_dflt exact rfl)) ses_nil)))) (Nat.le_of_ble_eq_true (by k_dflt exact rfl))) ses_nil) (by k_dflt exact rfl)) ses_nil)) (Nat.le_of_ble_eq_true (by k_dflt exact rfl))) (by k_dflt exact fun _ => ⟨_, rfl⟩)) (sl_ret (se_c C (by kernel_rfl) (p_law_row C hg) (by k_dflt exact rfl) (ses_cons (se_lst (ses_cons (se_l (by kernel_rfl)) (ses_cons (se_c C (by kernel_rfl) (p_law_any C hg) (by k_dflt exact rfl) (ses_cons (se_l (by kernel_rfl)) ses_nil) (by k_dflt exact rfl)) (ses_cons (se_l (by kernel_rfl)) (ses_cons (se_tup (ses_cons (se_s (l := [114, 112, 111, 115]) (by kernel_rfl) (by k_dflt exact rfl)) (ses_cons se_int ses_nil)) (Nat.le_of_ble_eq_true (by k_dflt exact rfl))) ses_nil)))) (Nat.le_of_ble_eq_true (by k_dflt exact rfl))) ses_nil) (by k_dflt exact rfl)))))) (by k_dflt exact fun _ => rfl) (by k_dflt (rintro ⟨sc, _, _, _, _, _, _, _, _⟩ h; obtain rfl : sc = _ := h; kernel_rfl))) (by k_dflt exact fun _ => rfl) (by k_dflt (rintro ⟨sc, _, _, _, _, _, _, _, _⟩ h; obtain rfl : sc = _ := h; kernel_rfl)))
theorem p_PatternCode_init {g : G} (C : Top0 g (KK g)) (hg : g.code = code0) : FC g 1 51 1 f_PatternCode_init := by
  refine fc_of C (fi := ⟨["self"], (fdG (KK g) 51).scope⟩) (fd := fdG (KK g) 51) (ps := ["self"]) (more := []) (by kernel_rfl) (by kernel_rfl) rfl rfl (show List.Nodup (α := Str) ["self"] from by decide +kernel) rfl (len1 fun a => by kernel_rfl) ?_
  conv => arg 4; whnf
  unfold f_PatternCode_init
  with_reducible exact (sl_asgA C (by k_dflt exact rfl) (se_l (by kernel_rfl)) (se_lst ses_nil (Nat.le_of_ble_eq_true (by k_dflt exact rfl))) sl_nil)
theorem p_row_of {g : G} (C : Top0 g (KK g)) (hg : g.code = code0) : FC g 1 23 2 f_row_of := by
  refine fc_of C (fi := ⟨["node", "kind", "found", "waiting", "part"], (fdG (KK g) 23).scope⟩) (fd := fdG (KK g) 23) (ps := ["node", "kind"]) (more := ["found", "waiting", "part"]) (by kernel_rfl) (by kernel_rfl) rfl rfl (show List.Nodup (α := Str) ["node", "kind", "found", "waiting", "part"] from by decide +kernel) rfl (len2 fun a b => by kernel_rfl) ?_
  conv => arg 4; whnf
  unfold f_row_of
  with_reducible exact (sl_asgR2 (by kernel_rfl) (se_tup (ses_cons (se_lst ses_nil (Nat.le_of_ble_eq_true (by k_dflt exact rfl))) (ses_cons (se_lst (ses_cons (se_l (by kernel_rfl)) ses_nil) (Nat.le_of_ble_eq_true (by k_dflt exact rfl))) ses_nil)) (Nat.le_of_ble_eq_true (by k_dflt exact rfl))) (sl_whl (sb_cmp (sc_gt (se_len C (bn (by kernel_rfl)) (se_l (by kernel_rfl))) se_int)) (sl_a (by kernel_rfl) (se_pop (se_l (by kernel_rfl)) (by k_dflt exact fun _ => ⟨_, rfl⟩)) (sl_ite (sb_cmp (sc_eq (se_idx0 hg (se_l (by kernel_rfl)) se_int) (se_l (by kernel_rfl)))) (sl_ex (se_ext (se_l (by kernel_rfl)) (se_lst (ses_cons (se_idx0 hg (se_l (by kernel_rfl)) se_int) (ses_cons (se_idx0 hg (se_l (by kernel_rfl)) se_int) ses_nil)) (Nat.le_of_ble_eq_true (by k_dflt exact rfl))) (by k_dflt exact fun _ => ⟨_, rfl⟩)) sl_nil) (sl_ex (se_app (se_l (by kernel_rfl)) (se_l (by kernel_rfl)) (by k_dflt exact fun _ => ⟨_, rfl⟩)) sl_nil) sl_nil)) (sl_ret (se_l (by kernel_rfl)))) (by k_dflt exact fun _ => rfl) (by k_dflt (rintro ⟨sc, _, _, _, _, _, _, _, _⟩ h; obtain rfl : sc = _ := h; kernel_rfl)))
theorem p_is_plain_text {g : G} (C : Top0 g (KK g)) (hg : g.code = code0) : FC g 1 30 1 f_is_plain_text := by
  refine fc_of C (fi := ⟨["node"], (fdG (KK g) 30).scope⟩) (fd := fdG (KK g) 30) (ps := ["node"]) (more := []) (by kernel_rfl) (by kernel_rfl) rfl rfl (show List.Nodup (α := Str) ["node"] from by decide +kernel) rfl (len1 fun a => by kernel_rfl) ?_
  conv => arg 4; whnf
  unfold f_is_plain_text
  with_reducible exact (sl_ret (se_and (se_cmp (sc_eq (se_idx0 hg (se_l (by kernel_rfl)) se_int) (se_s (l := [99, 104, 97, 114, 115]) (by kernel_rfl) (by k_dflt exact rfl)))) (se_isi_str C (bn (by kernel_rfl)) (bn (by kernel_rfl)) (se_idx0 hg (se_l (by kernel_rfl)) se_int))))
theorem p_with_texts_joined {g : G} (C : Top0 g (KK g)) (hg : g.code = code0) : FC g 2 37 1 f_with_texts_joined := by
  refine fc_of C (fi := ⟨["parts", "found", "part"], (fdG (KK g) 37).scope⟩) (fd := fdG (KK g) 37) (ps := ["parts"]) (more := ["found", "part"]) (by kernel_rfl) (by kernel_rfl) rfl rfl (show List.Nodup (α := Str) ["parts", "found", "part"] from by decide +kernel) rfl (len1 fun a => by kernel_rfl) ?_
  conv => arg 4; whnf
  unfold f_with_texts_joined
  with_reducible exact (sl_a (by kernel_rfl) (se_lst ses_nil (Nat.le_of_ble_eq_true (by k_dflt exact rfl))) (sl_for (by kernel_rfl) (se_l (by kernel_rfl)) (sl_ite (sb_val (se_c C (by kernel_rfl) (p_is_plain_text C hg) (by k_dflt exact rfl) (ses_cons (se_l (by kernel_rfl)) ses_nil) (by k_dflt exact rfl))) (sl_ite (sb_cmp (sc_eq (se_idx0 hg (se_l (by kernel_rfl)) se_int) (se_s (l := []) (by kernel_rfl) (by k_dflt exact rfl)))) sl_cont sl_nil (sl_ite (sb_and (sb_cmp (sc_gt (se_len C (bn (by kernel_rfl)) (se_l (by kernel_rfl))) se_int)) (sb_val (se_c C (by kernel_rfl) (p_is_plain_text C hg) (by k_dflt exact rfl) (ses_cons (se_idx0 hg (se_l (by kernel_rfl)) (se_sub (se_len C (bn (by kernel_rfl)) (se_l (by kernel_rfl))) se_int)) ses_nil) (by k_dflt exact rfl)))) (sl_a (by kernel_rfl) (se_tup (ses_cons (se_s (l := [99, 104, 97, 114, 115]) (by kernel_rfl) (by k_dflt exact rfl)) (ses_cons (se_add (se_idx0 hg (se_pop (se_l (by kernel_rfl)) (by k_dflt exact fun _ => ⟨_, rfl⟩)) se_int) (se_idx0 hg (se_l (by kernel_rfl)) se_int)) ses_nil)) (Nat.le_of_ble_eq_true (by k_dflt exact rfl))) sl_nil) sl_nil sl_nil)) sl_nil (sl_ex (se_app (se_l (by kernel_rfl)) (se_l (by kernel_rfl)) (by k_dflt exact fun _ => ⟨_, rfl⟩)) sl_nil)) (sl_ret (se_l (by kernel_rfl)))))
theorem p_PatternCode_choice {g : G} (C : Top0 g (KK g)) (hg : g.code = code0) : FC g 1 77 2 f_PatternCode_choice := by
  refine fc_of C (fi := ⟨["self", "parts", "found", "ends", "part"], (fdG (KK g) 77).scope⟩) (fd := fdG (KK g) 77) (ps := ["self", "parts"]) (more := ["found", "ends", "part"]) (by kernel_rfl) (by kernel_rfl) rfl rfl (show List.Nodup (α := Str) ["self", "parts", "found", "ends", "part"] from by decide +kernel) rfl (len2 fun a b => by kernel_rfl) ?_
  conv => arg 4; whnf
  unfold f_PatternCode_choice
  with_reducible exact (sl_asgR2 (by kernel_rfl) (se_tup (ses_cons (se_lst ses_nil (Nat.le_of_ble_eq_true (by k_dflt exact rfl))) (ses_cons (se_lst (ses_cons se_neg (ses_cons (se_lst ses_nil (Nat.le_of_ble_eq_true (by k_dflt exact rfl))) ses_nil)) (Nat.le_of_ble_eq_true (by k_dflt exact rfl))) ses_nil)) (Nat.le_of_ble_eq_true (by k_dflt exact rfl))) (sl_for (by kernel_rfl) (se_hi (se_l (by kernel_rfl)) (se_sub (se_len C (bn (by kernel_rfl)) (se_l (by kernel_rfl))) se_int)) (sl_ex (se_ext (se_l (by kernel_rfl)) (se_lst (ses_cons (se_tup (ses_cons (se_gs C (by kernel_rfl)) (ses_cons (se_l (by kernel_rfl)) ses_nil)) (Nat.le_of_ble_eq_true (by k_dflt exact rfl))) (ses_cons (se_tup (ses_cons (se_gs C (by kernel_rfl)) (ses_cons (se_l (by kernel_rfl)) ses_nil)) (Nat.le_of_ble_eq_true (by k_dflt exact rfl))) (ses_cons (se_tup (ses_cons (se_gs C (by kernel_rfl)) (ses_cons (se_l (by kernel_rfl)) ses_nil)) (Nat.le_of_ble_eq_true (by k_dflt exact rfl))) ses_nil))) (Nat.le_of_ble_eq_true (by k_dflt exact rfl))) (by k_dflt exact fun _ => ⟨_, rfl⟩)) sl_nil) (sl_ret (se_add (se_l (by kernel_rfl)) (se_lst (ses_cons (se_tup (ses_cons (se_gs C (by kernel_rfl)) (ses_cons (se_idx0 hg (se_l (by kernel_rfl)) (se_sub (se_len C (bn (by kernel_rfl)) (se_l (by kernel_rfl))) se_int)) ses_nil)) (Nat.le_of_ble_eq_true (by k_dflt exact rfl))) (ses_cons (se_tup (ses_cons (se_gs C (by kernel_rfl)) (ses_cons (se_l (by kernel_rfl)) ses_nil)) (Nat.le_of_ble_eq_true (by k_dflt exact rfl))) ses_nil)) (Nat.le_of_ble_eq_true (by k_dflt exact rfl)))))) (by k_dflt exact fun _ => rfl) (by k_dflt (rintro ⟨sc, _, _, _, _, _, _, _, _⟩ h; obtain rfl : sc = _ := h; kernel_rfl)))
theorem p_PatternCode_emit {g : G} (C : Top0 g (KK g)) (hg : g.code = code0) : FC g 1 58 2 f_PatternCode_emit := by
  refine fc_of C (fi := ⟨["self", "order"], (fdG (KK g) 58).scope⟩) (fd := fdG (KK g) 58) (ps := ["self", "order"]) (more := []) (by kernel_rfl) (by kernel_rfl) rfl rfl (show List.Nodup (α := Str) ["self", "order"] from by decide +kernel) rfl (len2 fun a b => by kernel_rfl) ?_
  conv => arg 4; whnf
  unfold f_PatternCode_emit
  with_reducible exact (sl_ex (se_app (se_att C (by k_dflt exact rfl) (se_l (by kernel_rfl))) (se_l (by kernel_rfl)) (by k_dflt exact fun _ => ⟨_, rfl⟩)) (sl_ret (se_sub (se_len C (bn (by kernel_rfl)) (se_att C (by k_dflt exact rfl) (se_l (by kernel_rfl)))) se_int)))
theorem p_PatternCode_repeat {g : G} (C : Top0 g (KK g)) (hg : g.code = code0) : FC g 2 84 2 f_PatternCode_repeat := by
  refine fc_of C (fi := ⟨["self", "node", "split", "leave"], (fdG (KK g) 84).scope⟩) (fd := fdG (KK g) 84) (ps := ["self", "node"]) (more := ["split", "leave"]) (by kernel_rfl) (by kernel_rfl) rfl rfl (show List.Nodup (α := Str) ["self", "node", "split", "leave"] from by decide +kernel) rfl (len2 fun a b => by kernel_rfl) ?_
  conv => arg 4; whnf
  unfold f_PatternCode_repeat
  with_reducible exact (sl_a (by kernel_rfl) (se_mth C (by kernel_rfl) (p_PatternCode_emit C hg) (Nat.le_of_ble_eq_true (by k_dflt exact rfl)) (se_l (by kernel_rfl)) (ses_cons se_none ses_nil) (by k_dflt exact rfl) (by k_dflt exact fun _ => ⟨_, rfl⟩)) (sl_a (by kernel_rfl) (se_mth C (by kernel_rfl) (p_PatternCode_emit C hg) (Nat.le_of_ble_eq_true (by k_dflt exact rfl)) (se_l (by kernel_rfl)) (ses_cons se_none ses_nil) (by k_dflt exact rfl) (by k_dflt exact fun _ => ⟨_, rfl⟩)) (sl_asgI (se_att C (by k_dflt exact rfl) (se_l (by kernel_rfl))) (se_l (by kernel_rfl)) (se_tup (ses_cons (se_gs C (by kernel_rfl)) (ses_cons (se_len C (bn (by kernel_rfl)) (se_att C (by k_dflt exact rfl) (se_l (by kernel_rfl)))) ses_nil)) (Nat.le_of_ble_eq_true (by k_dflt exact rfl))) (sl_ex (se_mth C (by kernel_rfl) (p_PatternCode_emit C hg) (Nat.le_of_ble_eq_true (by k_dflt exact rfl)) (se_l (by kernel_rfl)) (ses_cons (se_tup (ses_cons (se_gs C (by kernel_rfl)) ses_nil) (Nat.le_of_ble_eq_true (by k_dflt exact rfl))) ses_nil) (by k_dflt exact rfl) (by k_dflt exact fun _ => ⟨_, rfl⟩)) (sl_ret (se_lst (ses_cons (se_tup (ses_cons (se_gs C (by kernel_rfl)) (ses_cons (se_l (by kernel_rfl)) ses_nil)) (Nat.le_of_ble_eq_true (by k_dflt exact rfl))) (ses_cons (se_tup (ses_cons (se_gs C (by kernel_rfl)) (ses_cons (se_tup (ses_cons (se_gs C (by kernel_rfl)) ses_nil) (Nat.le_of_ble_eq_true (by k_dflt exact rfl))) ses_nil)) (Nat.le_of_ble_eq_true (by k_dflt exact rfl))) (ses_cons (se_tup (ses_cons (se_gs C (by kernel_rfl)) (ses_cons (se_tup (ses_cons (se_gs C (by kernel_rfl)) (ses_cons (se_l (by kernel_rfl)) ses_nil)) (Nat.le_of_ble_eq_true (by k_dflt exact rfl))) ses_nil)) (Nat.le_of_ble_eq_true (by k_dflt exact rfl))) (ses_cons (se_tup (ses_cons (se_gs C (by kernel_rfl)) (ses_cons (se_lst (ses_cons (se_l (by kernel_rfl)) (ses_cons (se_lst (ses_cons (se_l (by kernel_rfl)) ses_nil) (Nat.le_of_ble_eq_true (by k_dflt exact rfl))) ses_nil)) (Nat.le_of_ble_eq_true (by k_dflt exact rfl))) ses_nil)) (Nat.le_of_ble_eq_true (by k_dflt exact rfl))) ses_nil)))) (Nat.le_of_ble_eq_true (by k_dflt exact rfl))))))))
theorem p_PatternCode_begun {g : G} (C : Top0 g (KK g)) (hg : g.code = code0) : FC g 3 70 2 f_PatternCode_begun := by
  refine fc_of C (fi := ⟨["self", "node", "kind"], (fdG (KK g) 70).scope⟩) (fd := fdG (KK g) 70) (ps := ["self", "node"]) (more := ["kind"]) (by kernel_rfl) (by kernel_rfl) rfl rfl (show List.Nodup (α := Str) ["self", "node", "kind"] from by decide +kernel) rfl (len2 fun a b => by kernel_rfl) ?_
  conv => arg 4; whnf
  unfold f_PatternCode_begun
  with_reducible exact (sl_a (by kernel_rfl) (se_idx0 hg (se_l (by kernel_rfl)) se_int) (sl_ite (sb_cmp (sc_eq (se_l (by kernel_rfl)) (se_s (l := [99, 97, 116]) (by kernel_rfl) (by k_dflt exact rfl)))) (sl_ret (se_compL0 (se_c C (by kernel_rfl) (p_with_texts_joined C hg) (by k_dflt exact rfl) (ses_cons (se_c C (by kernel_rfl) (p_row_of C hg) (by k_dflt exact rfl) (ses_cons (se_l (by kernel_rfl)) (ses_cons (se_s (l := [99, 97, 116]) (by kernel_rfl) (by k_dflt exact rfl)) ses_nil)) (by k_dflt exact rfl)) ses_nil) (by k_dflt exact rfl)) (by kernel_rfl) ts_nil (se_tup (ses_cons (se_gs C (by kernel_rfl)) (ses_cons (se_l (by kernel_rfl)) ses_nil)) (Nat.le_of_ble_eq_true (by k_dflt exact rfl))))) sl_nil (sl_ite (sb_cmp (sc_eq (se_l (by kernel_rfl)) (se_s (l := [97, 108, 116]) (by kernel_rfl) (by k_dflt exact rfl)))) (sl_ret (se_mth C (by kernel_rfl) (p_PatternCode_choice C hg) (Nat.le_of_ble_eq_true (by k_dflt exact rfl)) (se_l (by kernel_rfl)) (ses_cons (se_c C (by kernel_rfl) (p_row_of C hg) (by k_dflt exact rfl) (ses_cons (se_l (by kernel_rfl)) (ses_cons (se_s (l := [97, 108, 116]) (by kernel_rfl) (by k_dflt exact rfl)) ses_nil)) (by k_dflt exact rfl)) ses_nil) (by k_dflt exact rfl) (by k_dflt exact fun _ => ⟨_, rfl⟩))) sl_nil (sl_ite (sb_cmp (sc_eq (se_l (by kernel_rfl)) (se_s (l := [97, 114, 98, 110, 111]) (by kernel_rfl) (by k_dflt exact rfl)))) (sl_ret (se_mth C (by kernel_rfl) (p_PatternCode_repeat C hg) (Nat.le_of_ble_eq_true (by k_dflt exact rfl)) (se_l (by kernel_rfl)) (ses_cons (se_idx0 hg (se_l (by kernel_rfl)) se_int) ses_nil) (by k_dflt exact rfl) (by k_dflt exact fun _ => ⟨_, rfl⟩))) sl_nil (sl_ite (sb_or (sb_cmp (sc_eq (se_l (by kernel_rfl)) (se_s (l := [108, 97, 116, 101, 114]) (by kernel_rfl) (by k_dflt exact rfl)))) (sb_cmp (sc_eq (se_l (by kernel_rfl)) (se_s (l := [110, 111, 119]) (by kernel_rfl) (by k_dflt exact rfl))))) (sl_ex (se_mth C (by kernel_rfl) (p_PatternCode_emit C hg) (Nat.le_of_ble_eq_true (by k_dflt exact rfl)) (se_l (by kernel_rfl)) (ses_cons (se_tup (ses_cons (se_gs C (by kernel_rfl)) ses_nil) (Nat.le_of_ble_eq_true (by k_dflt exact rfl))) ses_nil) (by k_dflt exact rfl) (by k_dflt exact fun _ => ⟨_, rfl⟩)) (sl_ret (se_lst (ses_cons (se_tup (ses_cons (se_gs C (by kernel_rfl)) (ses_cons (se_idx0 hg (se_l (by kernel_rfl)) se_int) ses_nil)) (Nat.le_of_ble_eq_true (by k_dflt exact rfl))) (ses_cons (se_tup (ses_cons (se_gs C (by kernel_rfl)) (ses_cons (se_tup (ses_cons (se_ite (sb_cmp (sc_eq (se_l (by kernel_rfl)) (se_s (l := [108, 97, 116, 101, 114]) (by kernel_rfl) (by k_dflt exact rfl)))) (se_gs C (by kernel_rfl)) (se_gs C (by kernel_rfl))) (ses_cons (se_idx0 hg (se_l (by kernel_rfl)) se_int) ses_nil)) (Nat.le_of_ble_eq_true (by k_dflt exact rfl))) ses_nil)) (Nat.le_of_ble_eq_true (by k_dflt exact rfl))) ses_nil)) (Nat.le_of_ble_eq_true (by k_dflt exact rfl))))) sl_nil (sl_ite (sb_cmp (sc_inG C (by kernel_rfl) (se_l (by kernel_rfl)))) (sl_ex (se_mth C (by kernel_rfl) (p_PatternCode_emit C hg) (Nat.le_of_ble_eq_true (by k_dflt exact rfl)) (se_l (by kernel_rfl)) (ses_cons (se_tup (ses_cons (se_gs C (by kernel_rfl)) (ses_cons (se_l (by kernel_rfl)) (ses_cons (se_ite (sb_cmp (sc_gt (se_len C (bn (by kernel_rfl)) (se_l (by kernel_rfl))) se_int)) (se_idx0 hg (se_l (by kernel_rfl)) se_int) se_none) ses_nil))) (Nat.le_of_ble_eq_true (by k_dflt exact rfl))) ses_nil) (by k_dflt exact rfl) (by k_dflt exact fun _ => ⟨_, rfl⟩)) sl_nil) (sl_ite (sb_or (sb_cmp (sc_eq (se_l (by kernel_rfl)) (se_s (l := [97, 114, 98]) (by kernel_rfl) (by k_dflt exact rfl)))) (sb_cmp (sc_eq (se_l (by kernel_rfl)) (se_s (l := [98, 97, 108]) (by kernel_rfl) (by k_dflt exact rfl))))) (sl_ex (se_mth C (by kernel_rfl) (p_PatternCode_emit C hg) (Nat.le_of_ble_eq_true (by k_dflt exact rfl)) (se_l (by kernel_rfl)) (ses_cons (se_tup (ses_cons (se_gs C (by kernel_rfl)) (ses_cons (se_l (by kernel_rfl)) ses_nil)) (Nat.le_of_ble_eq_true (by k_dflt exact rfl))) ses_nil) (by k_dflt exact rfl) (by k_dflt exact fun _ => ⟨_, rfl⟩)) sl_nil) (sl_ex (se_mth C (by kernel_rfl) (p_PatternCode_emit C hg) (Nat.le_of_ble_eq_true (by k_dflt exact rfl)) (se_l (by kernel_rfl)) (ses_cons (se_ite (sb_cmp (sc_inG C (by kernel_rfl) (se_l (by kernel_rfl)))) (se_tup (ses_cons (se_l (by kernel_rfl)) ses_nil) (Nat.le_of_ble_eq_true (by k_dflt exact rfl))) (se_tup (ses_cons (se_ite (sb_cmp (sc_eq (se_l (by kernel_rfl)) (se_s (l := [99, 117, 114, 115, 111, 114]) (by kernel_rfl) (by k_dflt exact rfl)))) (se_gs C (by kernel_rfl)) (se_gs C (by kernel_rfl))) (ses_cons (se_idx0 hg (se_l (by kernel_rfl)) se_int) ses_nil)) (Nat.le_of_ble_eq_true (by k_dflt exact rfl)))) ses_nil) (by k_dflt exact rfl) (by k_dflt exact fun _ => ⟨_, rfl⟩)) sl_nil) sl_nil) (sl_ret (se_lst ses_nil (Nat.le_of_ble_eq_true (by k_dflt exact rfl))))))))))
theorem p_PatternCode_bound {g : G} (C : Top0 g (KK g)) (hg : g.code = code0) : FC g 2 91 3 f_PatternCode_bound := by
  refine fc_of C (fi := ⟨["self", "word", "ends", "at"], (fdG (KK g) 91).scope⟩) (fd := fdG (KK g) 91) (ps := ["self", "word", "ends"]) (more := ["at"]) (by kernel_rfl) (by kernel_rfl) rfl rfl (show List.Nodup (α := Str) ["self", "word", "ends", "at"] from by decide +kernel) rfl (len3 fun a b c => by kernel_rfl) ?_
  conv => arg 4; whnf
  unfold f_PatternCode_bound
  with_reducible exact (sl_ite (sb_cmp (sc_eq (se_l (by kernel_rfl)) (se_gs C (by kernel_rfl)))) (sl_asgI (se_l (by kernel_rfl)) se_int (se_mth C (by kernel_rfl) (p_PatternCode_emit C hg) (Nat.le_of_ble_eq_true (by k_dflt exact rfl)) (se_l (by kernel_rfl)) (ses_cons se_none ses_nil) (by k_dflt exact rfl) (by k_dflt exact fun _ => ⟨_, rfl⟩)) sl_nil) (sl_ite (sb_cmp (sc_eq (se_l (by kernel_rfl)) (se_gs C (by kernel_rfl)))) (sl_ex (se_app (se_idx0 hg (se_l (by kernel_rfl)) se_int) (se_mth C (by kernel_rfl) (p_PatternCode_emit C hg) (Nat.le_of_ble_eq_true (by k_dflt exact rfl)) (se_l (by kernel_rfl)) (ses_cons se_none ses_nil) (by k_dflt exact rfl) (by k_dflt exact fun _ => ⟨_, rfl⟩)) (by k_dflt exact fun _ => ⟨_, rfl⟩)) (sl_asgI (se_att C (by k_dflt exact rfl) (se_l (by kernel_rfl))) (se_idx0 hg (se_l (by kernel_rfl)) se_int) (se_tup (ses_cons (se_gs C (by kernel_rfl)) (ses_cons (se_len C (bn (by kernel_rfl)) (se_att C (by k_dflt exact rfl) (se_l (by kernel_rfl)))) ses_nil)) (Nat.le_of_ble_eq_true (by k_dflt exact rfl))) sl_nil)) (sl_for (by kernel_rfl) (se_idx0 hg (se_l (by kernel_rfl)) se_int) (sl_asgI (se_att C (by k_dflt exact rfl) (se_l (by kernel_rfl))) (se_l (by kernel_rfl)) (se_tup (ses_cons (se_gs C (by kernel_rfl)) (ses_cons (se_len C (bn (by kernel_rfl)) (se_att C (by k_dflt exact rfl) (se_l (by kernel_rfl)))) ses_nil)) (Nat.le_of_ble_eq_true (by k_dflt exact rfl))) sl_nil) sl_nil) sl_nil) sl_nil)
theorem p_PatternCode_put {g : G} (C : Top0 g (KK g)) (hg : g.code = code0) : FC g 4 65 2 f_PatternCode_put := by
  refine fc_of C (fi := ⟨["self", "node", "waiting", "word", "told"], (fdG (KK g) 65).scope⟩) (fd := fdG (KK g) 65) (ps := ["self", "node"]) (more := ["waiting", "word", "told"]) (by kernel_rfl) (by kernel_rfl) rfl rfl (show List.Nodup (α := Str) ["self", "node", "waiting", "word", "told"] from by decide +kernel) rfl (len2 fun a b => by kernel_rfl) ?_
  conv => arg 4; whnf
  unfold f_PatternCode_put
  with_reducible exact (sl_a (by kernel_rfl) (se_lst (ses_cons (se_tup (ses_cons (se_gs C (by kernel_rfl)) (ses_cons (se_l (by kernel_rfl)) ses_nil)) (Nat.le_of_ble_eq_true (by k_dflt exact rfl))) ses_nil) (Nat.le_of_ble_eq_true (by k_dflt exact rfl))) (sl_whl (sb_cmp (sc_gt (se_len C (bn (by kernel_rfl)) (se_l (by kernel_rfl))) se_int)) (sl_asgT2 (by kernel_rfl) (se_pop (se_l (by kernel_rfl)) (by k_dflt exact fun _ => ⟨_, rfl⟩)) (sl_ite (sb_cmp (sc_eq (se_l (by kernel_rfl)) (se_gs C (by kernel_rfl)))) (sl_ex (se_ext (se_l (by kernel_rfl)) (se_back (se_mth C (by kernel_rfl) (p_PatternCode_begun C hg) (Nat.le_of_ble_eq_true (by k_dflt exact rfl)) (se_l (by kernel_rfl)) (ses_cons (se_l (by kernel_rfl)) ses_nil) (by k_dflt exact rfl) (by k_dflt exact fun _ => ⟨_, rfl⟩))) (by k_dflt exact fun _ => ⟨_, rfl⟩)) sl_nil) (sl_ite (sb_cmp (sc_eq (se_l (by kernel_rfl)) (se_gs C (by kernel_rfl)))) (sl_ex (se_mth C (by kernel_rfl) (p_PatternCode_emit C hg) (Nat.le_of_ble_eq_true (by k_dflt exact rfl)) (se_l (by kernel_rfl)) (ses_cons (se_l (by kernel_rfl)) ses_nil) (by k_dflt exact rfl) (by k_dflt exact fun _ => ⟨_, rfl⟩)) sl_nil) (sl_ex (se_mth C (by kernel_rfl) (p_PatternCode_bound C hg) (Nat.le_of_ble_eq_true (by k_dflt exact rfl)) (se_l (by kernel_rfl)) (ses_cons (se_l (by kernel_rfl)) (ses_cons (se_l (by kernel_rfl)) ses_nil)) (by k_dflt exact rfl) (by k_dflt exact fun _ => ⟨_, rfl⟩)) sl_nil) sl_nil) sl_nil) (by k_dflt exact fun _ => rfl) (by k_dflt exact fun _ _ => rfl)) sl_nil))
theorem p_straightened {g : G} (C : Top0 g (KK g)) (hg : g.code = code0) : FC g 1 105 1 f_straightened := by
  refine fc_of C (fi := ⟨["orders", "found", "order", "goal"], (fdG (KK g) 105).scope⟩) (fd := fdG (KK g) 105) (ps := ["orders"]) (more := ["found", "order", "goal"]) (by kernel_rfl) (by kernel_rfl) rfl rfl (show List.Nodup (α := Str) ["orders", "found", "order", "goal"] from by decide +kernel) rfl (len1 fun a => by kernel_rfl) ?_
  conv => arg 4; whnf
  unfold f_straightened
  with_reducible exact (sl_a (by kernel_rfl) (se_lst ses_nil (Nat.le_of_ble_eq_true (by k_dflt exact rfl))) (sl_for (by kernel_rfl) (se_l (by kernel_rfl)) (sl_ite (sb_cmp (sc_inT (se_idx0 hg (se_l (by kernel_rfl)) se_int) (ses_cons (se_gs C (by kernel_rfl)) (ses_cons (se_gs C (by kernel_rfl)) ses_nil)) (by k_dflt exact fun _ _ _ => rfl) (Nat.le_of_ble_eq_true (by k_dflt exact rfl)))) (sl_a (by kernel_rfl) (se_idx0 hg (se_l (by kernel_rfl)) se_int) (sl_whl (sb_cmp (sc_eq (se_idx0 hg (se_idx0 hg (se_l (by kernel_rfl)) (se_l (by kernel_rfl))) se_int) (se_gs C (by kernel_rfl)))) (sl_a (by kernel_rfl) (se_idx0 hg (se_idx0 hg (se_l (by kernel_rfl)) (se_l (by kernel_rfl))) se_int) sl_nil) (sl_a (by kernel_rfl) (se_tup (ses_cons (se_idx0 hg (se_l (by kernel_rfl)) se_int) (ses_cons (se_l (by kernel_rfl)) ses_nil)) (Nat.le_of_ble_eq_true (by k_dflt exact rfl))) sl_nil))) sl_nil (sl_ex (se_app (se_l (by kernel_rfl)) (se_l (by kernel_rfl)) (by k_dflt exact fun _ => ⟨_, rfl⟩)) sl_nil)) (sl_ret (se_l (by kernel_rfl)))))
theorem p_compile_pattern {g : G} (C : Top0 g (KK g)) (hg : g.code = code0) : FC g 5 112 1 f_compile_pattern := by
  refine fc_of C (fi := ⟨["node", "code"], (fdG (KK g) 112).scope⟩) (fd := fdG (KK g) 112) (ps := ["node"]) (more := ["code"]) (by kernel_rfl) (by kernel_rfl) rfl rfl (show List.Nodup (α := Str) ["node", "code"] from by decide +kernel) rfl (len1 fun a => by kernel_rfl) ?_
  conv => arg 4; whnf
  unfold f_compile_pattern
  with_reducible exact (sl_a (by kernel_rfl) (se_n0 C (by kernel_rfl) (p_PatternCode_init C hg) (by k_dflt exact rfl)) (sl_ex (se_mth C (by kernel_rfl) (p_PatternCode_put C hg) (Nat.le_of_ble_eq_true (by k_dflt exact rfl)) (se_l (by kernel_rfl)) (ses_cons (se_l (by kernel_rfl)) ses_nil) (by k_dflt exact rfl) (by k_dflt exact fun _ => ⟨_, rfl⟩)) (sl_ex (se_mth C (by kernel_rfl) (p_PatternCode_emit C hg) (Nat.le_of_ble_eq_true (by k_dflt exact rfl)) (se_l (by kernel_rfl)) (ses_cons (se_tup (ses_cons (se_gs C (by kernel_rfl)) ses_nil) (Nat.le_of_ble_eq_true (by k_dflt exact rfl))) ses_nil) (by k_dflt exact rfl) (by k_dflt exact fun _ => ⟨_, rfl⟩)) (sl_ret (se_c C (by kernel_rfl) (p_straightened C hg) (by k_dflt exact rfl) (ses_cons (se_att C (by k_dflt exact rfl) (se_l (by kernel_rfl))) ses_nil) (by k_dflt exact rfl))))))
theorem p_NameRef_init {g : G} (C : Top0 g (KK g)) (hg : g.code = code0) : FC g 1 205 4 f_NameRef_init := by
  refine fc_of C (fi := ⟨["self", "kind", "owner", "key"], (fdG (KK g) 205).scope⟩) (fd := fdG (KK g) 205) (ps := ["self", "kind", "owner", "key"]) (more := []) (by kernel_rfl) (by kernel_rfl) rfl rfl (show List.Nodup (α := Str) ["self", "kind", "owner", "key"] from by decide +kernel) rfl (len4 fun a b c d => by kernel_rfl) ?_
  conv => arg 4; whnf
  unfold f_NameRef_init
  with_reducible exact (sl_asgA C (by k_dflt exact rfl) (se_l (by kernel_rfl)) (se_l (by kernel_rfl)) (sl_asgA C (by k_dflt exact rfl) (se_l (by kernel_rfl)) (se_l (by kernel_rfl)) (sl_asgA C (by k_dflt exact rfl) (se_l (by kernel_rfl)) (se_l (by kernel_rfl)) sl_nil)))
theorem p_law_jumps {g : G} (C : Top0 g (KK g)) (hg : g.code = code0) : FC g 8 621 2 f_law_jumps := by
  refine fc_of C (fi := ⟨["orders", "row", "host", "laters", "name", "place", "piece"], (fdG (KK g) 621).scope⟩) (fd := fdG (KK g) 621) (ps := ["orders", "row"]) (more := ["host", "laters", "name", "place", "piece"]) (by kernel_rfl) (by kernel_rfl) rfl rfl (show List.Nodup (α := Str) ["orders", "row", "host", "laters", "name", "place", "piece"] from by decide +kernel) rfl (len2 fun a b => by kernel_rfl) ?_
  conv => arg 4; whnf
  unfold f_law_jumps
  with_reducible exact (sl_a (by kernel_rfl) (se_n C (by kernel_rfl) (p_PlainHost_init C hg) (by k_dflt exact rfl) (ses_cons se_dct (ses_cons se_int (ses_cons (se_lst ses_nil (Nat.le_of_ble_eq_true (by k_dflt exact rfl))) ses_nil))) (by k_dflt exact rfl)) (sl_ex (se_c C (by kernel_rfl) (p_match_orders C hg) (by k_dflt exact rfl) (ses_cons (se_l (by kernel_rfl)) (ses_cons (se_l (by kernel_rfl)) (ses_cons se_bool (ses_cons (se_l (by kernel_rfl)) ses_nil)))) (by k_dflt exact rfl)) (sl_a (by kernel_rfl) (se_lst ses_nil (Nat.le_of_ble_eq_true (by k_dflt exact rfl))) (sl_forT (xs := [("name", _), ("place", _)]) (by kernel_rfl) (se_att C (by k_dflt exact rfl) (se_l (by kernel_rfl))) (sl_a (by kernel_rfl) (se_ite (sb_cmp (sc_eq (se_slc (se_l (by kernel_rfl)) (se_sub (se_l (by kernel_rfl)) se_int) (se_l (by kernel_rfl))) (se_s (l := [49, 49, 48]) (by kernel_rfl) (by k_dflt exact rfl)))) (se_s (l := [48, 48, 49]) (by kernel_rfl) (by k_dflt exact rfl)) (se_s (l := [49, 48, 48]) (by kernel_rfl) (by k_dflt exact rfl))) (sl_ex (se_app (se_l (by kernel_rfl)) (se_add (se_add (se_hi (se_l (by kernel_rfl)) (se_sub (se_l (by kernel_rfl)) se_int)) (se_l (by kernel_rfl))) (se_lo (se_l (by kernel_rfl)) (se_l (by kernel_rfl)))) (by k_dflt exact fun _ => ⟨_, rfl⟩)) sl_nil)) (sl_ret (se_l (by kernel_rfl)))))))
end Mine

open PySem PySem.W PySem.Calls PyProof.Rows
set_option Elab.async false
set_option maxRecDepth 100000
set_option maxHeartbeats 0
namespace Mine
/-! ## what the small program answers: by evaluation in the kernel -/
theorem all_split {α : Type} {f : α → Bool} {l : List α} (n : Nat) (h1 : (l.take n).all f = true) (h2 : (l.drop n).all f = true) : l.all f = true := by
  rw [← List.take_append_drop n l, List.all_append, h1, h2]; rfl
theorem hcode : x_code [] ⟨.nil, 0, 0, []⟩ (isCode code0) = true := by kernel_rfl
noncomputable abbrev mB := metB f_law_met
noncomputable abbrev tB := tailB f_tail 2 3 4 6
theorem m0 : (List.take 10 mets).all mB = true := by kernel_rfl
theorem m1 : (List.take 10 (mets.drop 10)).all mB = true := by kernel_rfl
theorem m2 : (List.take 10 (mets.drop 20)).all mB = true := by kernel_rfl
theorem m3 : (List.take 10 (mets.drop 30)).all mB = true := by kernel_rfl
theorem m4 : (List.take 10 (mets.drop 40)).all mB = true := by kernel_rfl
theorem m5 : (List.take 10 (mets.drop 50)).all mB = true := by kernel_rfl
theorem m6 : (List.take 10 (mets.drop 60)).all mB = true := by kernel_rfl
theorem m7 : (List.take 10 (mets.drop 70)).all mB = true := by kernel_rfl
theorem m8 : (List.take 10 (mets.drop 80)).all mB = true := by kernel_rfl
theorem m9 : (List.take 10 (mets.drop 90)).all mB = true := by kernel_rfl
theorem m10 : (mets.drop 100).all mB = true := by kernel_rfl
theorem hm_all : mets.all mB = true := (all_split 10 m0 (all_split 10 m1 (show (List.drop 10 (mets.drop 10)).all mB = true from by rw [List.drop_drop]; exact (all_split 10 m2 (show (List.drop 10 (mets.drop 20)).all mB = true from by rw [List.drop_drop]; exact (all_split 10 m3 (show (List.drop 10 (mets.drop 30)).all mB = true from by rw [List.drop_drop]; exact (all_split 10 m4 (show (List.drop 10 (mets.drop 40)).all mB = true from by rw [List.drop_drop]; exact (all_split 10 m5 (show (List.drop 10 (mets.drop 50)).all mB = true from by rw [List.drop_drop]; exact (all_split 10 m6 (show (List.drop 10 (mets.drop 60)).all mB = true from by rw [List.drop_drop]; exact (all_split 10 m7 (show (List.drop 10 (mets.drop 70)).all mB = true from by rw [List.drop_drop]; exact (all_split 10 m8 (show (List.drop 10 (mets.drop 80)).all mB = true from by rw [List.drop_drop]; exact (all_split 10 m9 (show (List.drop 10 (mets.drop 90)).all mB = true from by rw [List.drop_drop]; exact m10)))))))))))))))))))
theorem t0 : (List.take 10 cuts).all tB = true := by kernel_rfl
theorem t1 : (List.take 10 (cuts.drop 10)).all tB = true := by kernel_rfl
theorem t2 : (List.take 10 (cuts.drop 20)).all tB = true := by kernel_rfl
theorem t3 : (List.take 10 (cuts.drop 30)).all tB = true := by kernel_rfl
theorem t4 : (List.take 10 (cuts.drop 40)).all tB = true := by kernel_rfl
theorem t5 : (List.take 10 (cuts.drop 50)).all tB = true := by kernel_rfl
theorem t6 : (List.take 10 (cuts.drop 60)).all tB = true := by kernel_rfl
theorem t7 : (List.take 10 (cuts.drop 70)).all tB = true := by kernel_rfl
theorem t8 : (List.take 10 (cuts.drop 80)).all tB = true := by kernel_rfl
theorem t9 : (List.take 10 (cuts.drop 90)).all tB = true := by kernel_rfl
theorem t10 : (List.take 10 (cuts.drop 100)).all tB = true := by kernel_rfl
theorem t11 : (List.take 10 (cuts.drop 110)).all tB = true := by kernel_rfl
theorem t12 : (List.take 10 (cuts.drop 120)).all tB = true := by kernel_rfl
theorem t13 : (List.take 10 (cuts.drop 130)).all tB = true := by kernel_rfl
theorem t14 : (List.take 10 (cuts.drop 140)).all tB = true := by kernel_rfl
theorem t15 : (cuts.drop 150).all tB = true := by kernel_rfl
theorem ht_all : cuts.all tB = true := (all_split 10 t0 (all_split 10 t1 (show (List.drop 10 (cuts.drop 10)).all tB = true from by rw [List.drop_drop]; exact (all_split 10 t2 (show (List.drop 10 (cuts.drop 20)).all tB = true from by rw [List.drop_drop]; exact (all_split 10 t3 (show (List.drop 10 (cuts.drop 30)).all tB = true from by rw [List.drop_drop]; exact (all_split 10 t4 (show (List.drop 10 (cuts.drop 40)).all tB = true from by rw [List.drop_drop]; exact (all_split 10 t5 (show (List.drop 10 (cuts.drop 50)).all tB = true from by rw [List.drop_drop]; exact (all_split 10 t6 (show (List.drop 10 (cuts.drop 60)).all tB = true from by rw [List.drop_drop]; exact (all_split 10 t7 (show (List.drop 10 (cuts.drop 70)).all tB = true from by rw [List.drop_drop]; exact (all_split 10 t8 (show (List.drop 10 (cuts.drop 80)).all tB = true from by rw [List.drop_drop]; exact (all_split 10 t9 (show (List.drop 10 (cuts.drop 90)).all tB = true from by rw [List.drop_drop]; exact (all_split 10 t10 (show (List.drop 10 (cuts.drop 100)).all tB = true from by rw [List.drop_drop]; exact (all_split 10 t11 (show (List.drop 10 (cuts.drop 110)).all tB = true from by rw [List.drop_drop]; exact (all_split 10 t12 (show (List.drop 10 (cuts.drop 120)).all tB = true from by rw [List.drop_drop]; exact (all_split 10 t13 (show (List.drop 10 (cuts.drop 130)).all tB = true from by rw [List.drop_drop]; exact (all_split 10 t14 (show (List.drop 10 (cuts.drop 140)).all tB = true from by rw [List.drop_drop]; exact t15)))))))))))))))))))))))))))))
theorem hmet : ∀ p ∈ mets, metB f_law_met p = true := List.all_eq_true.mp hm_all
theorem htail : ∀ p ∈ cuts, tailB f_tail 2 3 4 6 p = true := List.all_eq_true.mp ht_all
noncomputable def lawRun (j : Nat) : Bool := f_law [.scr j] ⟨.nil, 0, j, []⟩ (fun _ _ => false) (fun v _ => ifBool v fun c => c) (fun _ _ => false) (fun _ _ => false)
theorem law0 : lawRun 0 = true := by kernel_rfl
theorem law1 : lawRun 1 = true := by kernel_rfl
theorem law2 : lawRun 2 = true := by kernel_rfl
theorem law3 : lawRun 3 = true := by kernel_rfl
theorem law4 : lawRun 4 = true := by kernel_rfl
theorem lawAll : ∀ j, j ≤ 4 → lawRun j = true
  | 0, _ => law0
  | 1, _ => law1
  | 2, _ => law2
  | 3, _ => law3
  | 4, _ => law4
  | j + 5, h => absurd h (by omega)
end Mine

open PySem PySem.W PySem.Calls PyProof.Rows
set_option Elab.async false
set_option maxRecDepth 100000
set_option maxHeartbeats 8000000
namespace Mine
noncomputable def fi_law (K : Frag) : FI := ⟨["script", "usual", "cells", "size", "form", "told", "row", "turn", "aheads", "at", "jump", "orders", "jumps", "met", "goods"], (fdG K 626).scope⟩
theorem s_law {g : G} (C : Top0 g (KK g)) (hg : g.code = code0) (hcode : x_code [] ⟨.nil, 0, 0, []⟩ (isCode code0) = true) (hmet : ∀ p ∈ mets, metB f_law_met p = true) (htail : ∀ p ∈ cuts, tailB f_tail 2 3 4 6 p = true) :
    SL g 8 (fi_law (KK g)) (bodyOf (fdG (KK g) 626)) f_law := by
  conv => arg 4; whnf
  unfold f_law fi_law
  unfold x_code at hcode
  with_reducible refine (sl_a (by kernel_rfl) (se_lst (ses_cons se_int (ses_cons se_int (ses_cons se_int (ses_cons se_int ses_nil)))) (Nat.le_of_ble_eq_true (by k_dflt exact rfl))) (sl_a (by kernel_rfl) (se_add (se_compL0 (se_hi (se_l (by kernel_rfl)) se_int) (by kernel_rfl) ts_nil (se_abs C (bn (by kernel_rfl)) (se_toint C (bn (by kernel_rfl)) (se_l (by kernel_rfl))))) (se_lo (se_l (by kernel_rfl)) (se_len C (bn (by kernel_rfl)) (se_hi (se_l (by kernel_rfl)) se_int)))) (sl_asgT3 (by kernel_rfl) (se_tup (ses_cons (se_add se_int (se_mod (se_idx0 hg (se_l (by kernel_rfl)) se_int) se_int)) (ses_cons (se_mod (se_idx0 hg (se_l (by kernel_rfl)) se_int) se_int) (ses_cons (se_idx0 hg (se_l (by kernel_rfl)) se_int) ses_nil))) (Nat.le_of_ble_eq_true (by k_dflt exact rfl))) (sl_a (by kernel_rfl) (se_join (by kernel_rfl) (se_compR1 (nm := "told") C (bn (by kernel_rfl)) (se_l (by kernel_rfl)) (by kernel_rfl) (by k_dflt exact rfl) (fun _ _ h => by first | exact closure1 (by kernel_rfl) h | (simp [closureFor, cellOf, h]; done)) ts_nil (se_idx0 hg (se_s (l := [48, 49]) (by kernel_rfl) (by k_dflt exact rfl)) (se_mod (se_div (se_l (by kernel_rfl)) (se_pow se_int (se_l (by kernel_rfl)))) se_int))) (by k_dflt exact fun _ => ⟨_, rfl⟩)) (sl_ite (sb_cmp (sc_eq (se_l (by kernel_rfl)) se_int)) (sl_asgT2 (by kernel_rfl) (se_tup (ses_cons (se_add (se_add (se_mul (se_s (l := [48]) (by kernel_rfl) (by k_dflt exact rfl)) (se_mod (se_l (by kernel_rfl)) (se_l (by kernel_rfl)))) (se_s (l := [49]) (by kernel_rfl) (by k_dflt exact rfl))) (se_mul (se_s (l := [48]) (by kernel_rfl) (by k_dflt exact rfl)) (se_sub (se_sub (se_l (by kernel_rfl)) se_int) (se_mod (se_l (by kernel_rfl)) (se_l (by kernel_rfl)))))) (ses_cons (se_div (se_l (by kernel_rfl)) (se_l (by kernel_rfl))) ses_nil)) (Nat.le_of_ble_eq_true (by k_dflt exact rfl))) (sl_forR C (bn (by kernel_rfl)) (by kernel_rfl) (se_l (by kernel_rfl)) (sl_a (by kernel_rfl) (se_lst ses_nil (Nat.le_of_ble_eq_true (by k_dflt exact rfl))) (sl_forR C (bn (by kernel_rfl)) (by kernel_rfl) (se_sub (se_l (by kernel_rfl)) se_int) (sl_ite (sb_cmp (sc_inT (se_slc (se_l (by kernel_rfl)) (se_l (by kernel_rfl)) (se_add (se_l (by kernel_rfl)) se_int)) (ses_cons (se_s (l := [48, 48, 49]) (by kernel_rfl) (by k_dflt exact rfl)) (ses_cons (se_s (l := [49, 48, 48]) (by kernel_rfl) (by k_dflt exact rfl)) ses_nil)) (by k_dflt exact fun _ _ _ => rfl) (Nat.le_of_ble_eq_true (by k_dflt exact rfl)))) (sl_ex (se_app (se_l (by kernel_rfl)) (se_add (se_add (se_hi (se_l (by kernel_rfl)) (se_l (by kernel_rfl))) (se_ite (sb_cmp (sc_eq (se_slc (se_l (by kernel_rfl)) (se_l (by kernel_rfl)) (se_add (se_l (by kernel_rfl)) se_int)) (se_s (l := [48, 48, 49]) (by kernel_rfl) (by k_dflt exact rfl)))) (se_s (l := [49, 49, 48]) (by kernel_rfl) (by k_dflt exact rfl)) (se_s (l := [48, 49, 49]) (by kernel_rfl) (by k_dflt exact rfl)))) (se_lo (se_l (by kernel_rfl)) (se_add (se_l (by kernel_rfl)) se_int))) (by k_dflt exact fun _ => ⟨_, rfl⟩)) sl_nil) sl_nil sl_nil) (sl_ite (sb_cmp (sc_eq (se_l (by kernel_rfl)) (se_lst ses_nil (Nat.le_of_ble_eq_true (by k_dflt exact rfl))))) sl_brk sl_nil (sl_asgT2 (by kernel_rfl) (se_tup (ses_cons (se_idx0 hg (se_l (by kernel_rfl)) (se_mod (se_l (by kernel_rfl)) (se_len C (bn (by kernel_rfl)) (se_l (by kernel_rfl))))) (ses_cons (se_div (se_l (by kernel_rfl)) (se_len C (bn (by kernel_rfl)) (se_l (by kernel_rfl)))) ses_nil)) (Nat.le_of_ble_eq_true (by k_dflt exact rfl))) sl_nil (by k_dflt exact fun _ => rfl) (by k_dflt (rintro ⟨sc, _, _, _, _, _, _, _, _⟩ h; obtain rfl : sc = _ := h; kernel_rfl)))))) sl_nil) (by k_dflt exact fun _ => rfl) (by k_dflt (rintro ⟨sc, _, _, _, _, _, _, _, _⟩ h; obtain rfl : sc = _ := h; kernel_rfl))) (sl_ite (sb_cmp (sc_notIn (by kernel_rfl) (se_l (by kernel_rfl)) (by k_dflt exact rfl))) (sl_a (by kernel_rfl) (se_add (se_s (l := [49]) (by kernel_rfl) (by k_dflt exact rfl)) (se_lo (se_l (by kernel_rfl)) se_int)) sl_nil) sl_nil sl_nil) (sl_cut (m := f_tail) ?_ (by decide) (by decide) (by decide) (by decide) (by decide) (by decide) htail))) (by k_dflt exact fun _ => rfl) (by k_dflt (rintro ⟨sc, _, _, _, _, _, _, _, _⟩ h; obtain rfl : sc = _ := h; kernel_rfl)))))
  unfold f_tail
  with_reducible exact (sl_a (by kernel_rfl) (se_tup (ses_cons (se_s (l := [99, 97, 116]) (by kernel_rfl) (by k_dflt exact rfl)) (ses_cons (se_tup (ses_cons (se_s (l := [97, 108, 116]) (by kernel_rfl) (by k_dflt exact rfl)) (ses_cons (se_tup (ses_cons (se_s (l := [99, 104, 97, 114, 115]) (by kernel_rfl) (by k_dflt exact rfl)) (ses_cons (se_s (l := [49, 49, 48]) (by kernel_rfl) (by k_dflt exact rfl)) ses_nil)) (Nat.le_of_ble_eq_true (by k_dflt exact rfl))) (ses_cons (se_tup (ses_cons (se_s (l := [99, 104, 97, 114, 115]) (by kernel_rfl) (by k_dflt exact rfl)) (ses_cons (se_s (l := [48, 49, 49]) (by kernel_rfl) (by k_dflt exact rfl)) ses_nil)) (Nat.le_of_ble_eq_true (by k_dflt exact rfl))) ses_nil))) (Nat.le_of_ble_eq_true (by k_dflt exact rfl))) (ses_cons (se_tup (ses_cons (se_s (l := [99, 97, 116]) (by kernel_rfl) (by k_dflt exact rfl)) (ses_cons (se_tup (ses_cons (se_s (l := [99, 117, 114, 115, 111, 114]) (by kernel_rfl) (by k_dflt exact rfl)) (ses_cons (se_n C (by kernel_rfl) (p_NameRef_init C hg) (by k_dflt exact rfl) (ses_cons (se_s (l := [118, 97, 114]) (by kernel_rfl) (by k_dflt exact rfl)) (ses_cons se_none (ses_cons (se_s (l := [74]) (by kernel_rfl) (by k_dflt exact rfl)) ses_nil))) (by k_dflt exact rfl)) ses_nil)) (Nat.le_of_ble_eq_true (by k_dflt exact rfl))) (ses_cons (se_tup (ses_cons (se_s (l := [102, 97, 105, 108]) (by kernel_rfl) (by k_dflt exact rfl)) ses_nil) (Nat.le_of_ble_eq_true (by k_dflt exact rfl))) ses_nil))) (Nat.le_of_ble_eq_true (by k_dflt exact rfl))) ses_nil))) (Nat.le_of_ble_eq_true (by k_dflt exact rfl))) (sl_asgT3 (by kernel_rfl) (se_tup (ses_cons (se_code0 hg (se_c C (by kernel_rfl) (p_compile_pattern C hg) (by k_dflt exact rfl) (ses_cons (se_c0 C (by kernel_rfl) (p_law_pattern C hg) (by k_dflt exact rfl)) ses_nil) (by k_dflt exact rfl)) hcode) (ses_cons (se_c C (by kernel_rfl) (p_compile_pattern C hg) (by k_dflt exact rfl) (ses_cons (se_l (by kernel_rfl)) ses_nil) (by k_dflt exact rfl)) (ses_cons (se_idx0 hg (se_l (by kernel_rfl)) se_int) ses_nil))) (Nat.le_of_ble_eq_true (by k_dflt exact rfl))) (sl_a (by kernel_rfl) (let ⟨h1, h2, h3, h4⟩ := callOk_of (K := KK g) (x := "_law_met") (f := 614) (by kernel_rfl); se_met C h1 h2 h3 h4 (p_law_met C hg) (Nat.le_of_ble_eq_true (by k_dflt exact rfl)) (se_l (by kernel_rfl)) (se_l (by kernel_rfl)) hmet) (sl_ite (sb_and (sb_cmp (sc_eq (se_l (by kernel_rfl)) se_int)) (sb_not (sb_val (se_l (by kernel_rfl))))) (sl_ret se_bool) sl_nil (sl_forR C (bn (by kernel_rfl)) (by kernel_rfl) (se_l (by kernel_rfl)) (sl_compL1 (nm := "orders") (se_c C (by kernel_rfl) (p_law_jumps C hg) (by k_dflt exact rfl) (ses_cons (se_l (by kernel_rfl)) (ses_cons (se_l (by kernel_rfl)) ses_nil)) (by k_dflt exact rfl)) (by kernel_rfl) (by k_dflt exact rfl) (fun _ _ h => by first | exact closure1 (by kernel_rfl) h | (simp [closureFor, cellOf, h]; done)) (ts_one (sb_val (let ⟨h1, h2, h3, h4⟩ := callOk_of (K := KK g) (x := "_law_met") (f := 614) (by kernel_rfl); se_met C h1 h2 h3 h4 (p_law_met C hg) (Nat.le_of_ble_eq_true (by k_dflt exact rfl)) (se_l (by kernel_rfl)) (se_l (by kernel_rfl)) hmet))) (se_l (by kernel_rfl)) (sl_ite (sb_cmp (sc_ne (se_l (by kernel_rfl)) (se_or (se_cmp (sc_eq (se_count (by kernel_rfl) (se_l (by kernel_rfl)) (by k_dflt exact fun _ => ⟨_, rfl⟩)) se_int)) (se_cmp (sc_ne (se_l (by kernel_rfl)) (se_lst ses_nil (Nat.le_of_ble_eq_true (by k_dflt exact rfl)))))))) (sl_ret se_bool) sl_nil (sl_ite (sb_cmp (sc_eq (se_l (by kernel_rfl)) (se_lst ses_nil (Nat.le_of_ble_eq_true (by k_dflt exact rfl))))) (sl_ret se_bool) sl_nil (sl_asgT3 (by kernel_rfl) (se_tup (ses_cons (se_idx0 hg (se_l (by kernel_rfl)) (se_mod (se_l (by kernel_rfl)) (se_len C (bn (by kernel_rfl)) (se_l (by kernel_rfl))))) (ses_cons (se_div (se_l (by kernel_rfl)) (se_len C (bn (by kernel_rfl)) (se_l (by kernel_rfl)))) (ses_cons se_bool ses_nil))) (Nat.le_of_ble_eq_true (by k_dflt exact rfl))) sl_nil (by k_dflt exact fun _ => rfl) (by k_dflt (rintro ⟨sc, _, _, _, _, _, _, _, _⟩ h; obtain rfl : sc = _ := h; kernel_rfl))))) (by kernel_rfl) (by k_dflt (rintro ⟨sc, _, _, _, _, _, _, _, _⟩ h; obtain rfl : sc = _ := h; kernel_rfl))) (sl_ret se_bool)))) (by k_dflt exact fun _ => rfl) (by k_dflt (rintro ⟨sc, _, _, _, _, _, _, _, _⟩ h; obtain rfl : sc = _ := h; kernel_rfl))))
end Mine

open PySem PySem.W PySem.Calls PyProof.Rows
set_option Elab.async false
set_option maxRecDepth 100000
set_option maxHeartbeats 8000000
namespace Mine
theorem cells_law (p : Params) (L : Nat) : cellsFrom (L + 1) (fdG (KF p) 626).scope.names [] = [(("orders" : Str), L + 1 + 1), (("told" : Str), L + 1)] := by kernel_rfl
theorem cls_law (p : Params) : (clsL.all fun c => attrS.all fun x => clsOk (KF p) c x) = true := by kernel_rfl
theorem kind_law (p : Params) : (fdG (KF p) 626).scope.kind = .function := by kernel_rfl
theorem loc_law (p : Params) : (fdG (KF p) 626).scope.names.lookup ("script" : Str) = some .local := by kernel_rfl
theorem only_law (p : Params) : (fdG (KF p) 626).scope.names.all (fun x => x.2 != .cell || x.1 == ("orders" : Str) || x.1 == ("told" : Str)) = true := by kernel_rfl
theorem ints_get : ∀ {vs : List Value} {ns : List Int}, IntsAre vs ns → ∀ {i : Nat} {x : Int}, ns[i]? = some x → ∃ t, vs[i]? = some (.int x t)
  | _, _, .nil, i, x, h => by simp at h
  | _, _, .cons n t r, 0, x, h => by simp at h; subst h; exact ⟨t, rfl⟩
  | _, _, .cons n t r, i + 1, x, h => by
    obtain ⟨u, e⟩ := ints_get r (i := i) (x := x) (by simpa using h)
    exact ⟨u, by simpa using e⟩
theorem ints_len : ∀ {vs : List Value} {ns : List Int}, IntsAre vs ns → vs.length = ns.length
  | _, _, .nil => rfl
  | _, _, .cons n t r => by simp [ints_len r]
noncomputable def lawRun' (j : Nat) : Bool := f_law [.scr j] ⟨.nil, 0, j, []⟩ (fun _ _ => false) (fun v _ => ifBool v fun c => c) (fun _ _ => false) (fun _ _ => false)
theorem law_core {prog : Program} {w : World} {h1 : Heap} {fa la : Nat} {cd : Value} {scope : Scope} {body : List Stmt} {name : Str} {mL : Str → Option Value} {o1 o2 : Obj} {v1 v2 : Option Value} {vs : List Value} {ns : List Int} {s : Shared} {p : Program} {loose : List Str} {mg mb : Str → Option Value}
    (hcode : x_code [] ⟨.nil, 0, 0, []⟩ (isCode code0) = true) (hmet : ∀ p ∈ mets, metB f_law_met p = true) (htail : ∀ p ∈ cuts, tailB f_tail 2 3 4 6 p = true) (hlaw : ∀ j, j ≤ 4 → lawRun' j = true)
    (T : TopRead p loose mg mb h1) (X : (KF w.params).In h1) (hbody : body = bodyOf (fdG (KF w.params) 626)) (hscope : scope = (fdG (KF w.params) 626).scope)
    (F : Fr h1 h1.objs.size s.heap mL) (hm : mL "script" = some (.ref la)) (N : News h1 h1.objs.size s.heap [(h1.objs.size + 1 + 1, o1), (h1.objs.size + 1, o2)]) (d1 : o1.data = .cell v1) (d2 : o2.data = .cell v2)
    (hl : h1.IsList la vs.toArray) (hi : IntsAre vs ns) (hz : vs.length ≤ 2 ^ 20) :
    wpAny (model prog w) (callerA.deeper (envOfC name scope h1.objs.size fa cd)) (execs body (envOfC name scope h1.objs.size fa cd)) (fun fl s' => fl = .ret (.bool true) ∧ (∀ b o, h1.get? b = some o → s'.heap.get? b = some o) ∧ Same s s') (fun _ _ => False) s := by
  let g : G := ⟨prog, w, h1, code0⟩
  have C : Top0 g (KK g) := ⟨⟨p, loose, mg, mb, T⟩, X, fun c hc x hx => List.all_eq_true.mp (List.all_eq_true.mp (cls_law w.params) c hc) x hx⟩
  subst hbody hscope
  let env := envOfC name (fdG (KF w.params) 626).scope h1.objs.size fa cd
  have hcells : env.cells = [(("orders" : Str), h1.objs.size + 1 + 1), (("told" : Str), h1.objs.size + 1)] := cells_law w.params h1.objs.size
  let j := (ns.take 4).length
  have j4 : j ≤ 4 := by show (ns.take 4).length ≤ 4; simp; omega
  let μ : Wd := ⟨[], ns.take 4, h1.get?⟩
  have nf : ∀ b, ¬ Foot μ b := fun b ⟨a, ha, _⟩ => by cases ha
  have I : Hp g μ ⟨.nil, 0, j, []⟩ s.heap := ⟨fun _ _ e => e, F.keep, rfl, rfl, fun i mo e => (by cases e), fun a ha => (by cases ha), fun a ha => (by cases ha), fun i j a b _ ha _ => (by cases ha), fun p hp => (by cases hp)⟩
  have n0 : h1.get? h1.objs.size = none := none_at _
  have n1 : h1.get? (h1.objs.size + 1) = none := Heap.get?_none_of_le (Nat.le_succ _)
  have n2 : h1.get? (h1.objs.size + 1 + 1) = none := Heap.get?_none_of_le (by omega)
  have e1 := (N (h1.objs.size + 1 + 1, o1) (by simp)).1
  have e2 := (N (h1.objs.size + 1, o2) (by simp)).1
  have En : EnvOk (fi_law (KK g)) env := by
    refine ⟨rfl, kind_law w.params, rfl, rfl, (show List.Nodup (α := Str) ["script", "usual", "cells", "size", "form", "told", "row", "turn", "aheads", "at", "jump", "orders", "jumps", "met", "goods"] from by decide +kernel), fun x hx => ?_⟩
    have hx : (fdG (KF w.params) 626).scope.names.lookup x = some .cell := hx
    have := List.all_eq_true.mp (only_law w.params) _ (mem_of_lookup hx)
    rw [hcells]
    have hx2 : x = "orders" ∨ x = "told" := by simpa using this
    rcases hx2 with rfl | rfl
    · exact ⟨h1.objs.size + 1 + 1, by rw [List.lookup_cons]; simp⟩
    · exact ⟨h1.objs.size + 1, by rw [List.lookup_cons, show (("told" : Str) == ("orders" : Str)) = false from by decide +kernel]; simp⟩
  have L : Lo g μ (fi_law (KK g)) env [.scr j] s.heap := by
    refine ⟨nf _, n0, fun x c hc => ?_, ?_, mL, F.ns, fun i x hx ne => ?_⟩
    · rw [hcells] at hc
      simp only [List.mem_cons, Prod.mk.injEq, List.mem_nil_iff, or_false] at hc
      rcases hc with ⟨_, rfl⟩ | ⟨_, rfl⟩
      · exact ⟨by show h1.objs.size + 1 + 1 ≠ h1.objs.size; omega, nf _, n2, v1, o1, e1, d1⟩
      · exact ⟨by show h1.objs.size + 1 ≠ h1.objs.size; omega, nf _, n1, v2, o2, e2, d2⟩
    · rw [hcells]; simp
    · cases i with
      | succ i => exact absurd rfl ne
      | zero =>
        have hx : some ("script" : Str) = some x := hx
        cases hx
        refine ⟨.ref la, ?_, .inl ⟨loc_law w.params, hm⟩⟩
        obtain ⟨o, ho, hc, n, hd⟩ := hl
        have len := ints_len hi
        refine ⟨la, rfl, o, n, vs.toArray, ho, hc, hd, by simpa using hz, by show (vs.take 4).length = (ns.take 4).length; simp [len], fun i hij => ?_⟩
        have hij : i < (ns.take 4).length := hij
        have e : (ns.take 4)[i]? = some ((ns.take 4)[i]) := List.getElem?_eq_getElem hij
        have h4 : i < 4 := by simp at hij; omega
        obtain ⟨t, q⟩ := ints_get hi (i := i) (x := (ns.take 4)[i]) (by rw [← e, List.getElem?_take_of_lt h4])
        exact ⟨_, t, q, e⟩
  have R : Room 8 (callerA.deeper env) := ⟨rfl, (show callerA.depth + 1 + 4 * 8 ≤ 900 from by decide), (show callerA.units + 3 + 20 * 8 ≤ 5000 from by decide)⟩
  refine wpAny_mono (s_law C rfl hcode hmet htail _ env μ [.scr j] _ s _ _ _ _ R En I L (hlaw j j4)) (fun fl s' h => ?_) fun _ _ z => z
  obtain ⟨μ', st', S, m, I', h⟩ := h
  have kk : ∀ b o, h1.get? b = some o → s'.heap.get? b = some o := fun b o e => S.keep b o (F.keep b o e) (nf b) (by
    rintro (q | ⟨x, q⟩)
    · have q : b = h1.objs.size := q
      rw [q, n0] at e; cases e
    · rw [hcells] at q
      simp only [List.mem_cons, Prod.mk.injEq, List.mem_nil_iff, or_false] at q
      rcases q with ⟨_, rfl⟩ | ⟨_, rfl⟩
      · rw [n2] at e; cases e
      · rw [n1] at e; cases e)
  cases fl with
  | ret v =>
    obtain ⟨mv, V, h⟩ := h
    obtain ⟨c, rfl, h⟩ := ifBool_of h
    obtain rfl : c = true := h
    obtain rfl : v = .bool true := V
    exact ⟨rfl, kk, m⟩
  | next => obtain ⟨loc, _, h⟩ := h; cases h
  | brk => obtain ⟨loc, _, h⟩ := h; cases h
  | cont => obtain ⟨loc, _, h⟩ := h; cases h
end Mine

open PySem PySem.W PyProof.Rows
set_option Elab.async false
namespace Mine
theorem good_true {r : RowW} {cl : Str → Option Addr} {mean : ExcName → Option Value} {args : List WData} {s₁ s' : Shared} (h1 : ∀ cls, r.claim.raises args cls = false) (h2 : r.claim.post args (.bool true) args = true) (h3 : r.claim.records = r.claim.records) (k : ∀ b o, s₁.heap.get? b = some o → s'.heap.get? b = some o) (ho : s'.os = s₁.os) (hg : s'.gens = #[]) :
    GoodW r.claim cl mean args s₁ (.ok (.ret (.bool true))) s' :=
  ⟨.inl ⟨.bool true, .bool true, [], rfl, h1, .bool true, h2, fun _ => ⟨.nil, fun a ha => by cases ha⟩⟩, k, ho, hg⟩
end Mine
set_option maxRecDepth 100000 in
set_option maxHeartbeats 8000000 in
theorem PySem.Challenge.cw_xw0310_01_holds : PySem.Challenge.rw_xw0310_01.Holds := by
  refine holds_law Mine.saids fun said => ?_
  refine holds_open (q := Mine.qv) (loose := Mine.lse) (Xt := Mine.xt) (XP := XL Mine.qv []) (Yf := Hook.obs (kHook Mine.KF Mine.KA Mine.kfa)) (Ya := Hook.val (kHook Mine.KF Mine.KA Mine.kfa)) (YP := Hook.says (kHook Mine.KF Mine.KA Mine.kfa)) (N := 4500) Mine.left (Hook.of (kHook Mine.KF Mine.KA Mine.kfa)) (Hook.keeps (kHook Mine.KF Mine.KA Mine.kfa)) (fun s e => xl_of s (Bool.and_eq_true_iff.mp e).1) XL.keeps (by rfl) (by rfl) (by rfl) (fun s e => recFacts_of (Bool.and_eq_true_iff.mp e).2) (by rfl) said (by decide +kernel) ⟨rfl, rfl, rfl, rfl, rfl, by decide +kernel⟩ ?hw ?hc
  case hw => w_witness2
  k_go0
  rename_i hg KX X V GL T B TE TW m1 m2 M q1 q2 hcd ns hs hlay0 hL1 hr1 hl2 as1 as2 la vs as3 hL ra w1 r0 hI hr hcond hcond' K0 hD h1 tk F o1 o2 left right N0 X0
  have hlen := hcond
  refine wpAny_mono (Mine.law_core (vs := vs) (ns := ns) (la := la) Mine.hcode Mine.hmet Mine.htail Mine.lawAll ⟨T.g, T.b, T.nolimit, T.builtins, T.free⟩ KX ?_ ?_ F ?_ N0 left right hL hI ?_) (fun fl s' h => ?_) (fun _ _ h => h.elim)
  · kernel_rfl
  · kernel_rfl
  · kernel_rfl
  · have := Mine.ints_len hI
    have h63 : ns.length ≤ 63 := by
      have := hcond
      omega
    have h20 : 63 ≤ 2 ^ 20 := by decide
    omega
  · obtain ⟨rfl, kk, h2, t2, e2⟩ := h
    subst e2
    exact Mine.good_true (fun _ => rfl) (postW_of (by first | rfl | wrow_shape | simp [WShape.has]) (w_eq_bool (w_res rfl) w_lit) rfl) rfl kk rfl hg
