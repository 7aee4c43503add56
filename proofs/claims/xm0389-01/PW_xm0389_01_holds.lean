import PyProof.Rows.All
import Open.Line
import Open.FastLooks
import OpenK.KCell
import OpenK.XOpen
import Open.Boot
import Open.FastRun
import Open.FastT9
import PySem.Challenge.RW_xm0389_01
set_option Elab.async false
set_option maxRecDepth 1000000
set_option maxHeartbeats 8000000
set_option autoImplicit false
set_option linter.unusedVariables false
set_option genSizeOf false
set_option genInjectivity false

namespace Mine
open PySem

/-- plain values: frozen trees, and a `ref` to an owned list -/
inductive V where
  | int (i : Int)
  | bool (b : Bool)
  | fn (k : Nat)
  | lst (xs : List V)
  | tup (xs : List V)
  | ref (n : Nat)

abbrev Hp := List (Nat × List V)
structure St where
  lm : List (Option V)
  hp : Hp
  nx : Nat
abbrev RR := Option (V × Hp × Nat)
/-- how calls are made: with a share in the owned lists; with plain values alone -/
structure Ca where
  run : Nat → List V → Hp → Nat → RR
  pure : Nat → List V → Option V
abbrev CE := Ca → St → (V → St → RR) → RR
abbrev CC := Ca → St → (St → RR) → (St → RR) → RR
abbrev CS := Ca → St → (St → RR) → RR

section
variable {α γ : Type}
@[reducible] noncomputable def bo (o : Option α) (k : α → Option γ) : Option γ := @Option.rec α (fun _ => Option γ) none k o
@[reducible] noncomputable def yn (b : Bool) (f t : γ) : γ := @Bool.rec (fun _ => γ) f t b
@[reducible] noncomputable def natc (n : Nat) (z : γ) (s : Nat → γ) : γ := @Nat.rec (fun _ => γ) z (fun k _ => s k) n
@[reducible] noncomputable def onI (i : Int) (p n : Nat → γ) : γ := @Int.rec (fun _ => γ) p n i
@[reducible] noncomputable def onV (v : V) (i : Int → γ) (b : Bool → γ) (f : Nat → γ) (l t : List V → γ) (r : Nat → γ) : γ := @V.casesOn (fun _ => γ) v i b f l t r
noncomputable def asI (v : V) (k : Int → Option γ) : Option γ := onV v k (fun _ => none) (fun _ => none) (fun _ => none) (fun _ => none) (fun _ => none)
noncomputable def asB (v : V) (k : Bool → Option γ) : Option γ := onV v (fun _ => none) k (fun _ => none) (fun _ => none) (fun _ => none) (fun _ => none)
noncomputable def asF (v : V) (k : Nat → Option γ) : Option γ := onV v (fun _ => none) (fun _ => none) k (fun _ => none) (fun _ => none) (fun _ => none)
noncomputable def asL (v : V) (k : List V → Option γ) : Option γ := onV v (fun _ => none) (fun _ => none) (fun _ => none) k (fun _ => none) (fun _ => none)
noncomputable def asT (v : V) (k : List V → Option γ) : Option γ := onV v (fun _ => none) (fun _ => none) (fun _ => none) (fun _ => none) k (fun _ => none)
noncomputable def asR (v : V) (k : Nat → Option γ) : Option γ := onV v (fun _ => none) (fun _ => none) (fun _ => none) (fun _ => none) (fun _ => none) k
/-- a nought or more -/
noncomputable def asN (v : V) (k : Nat → Option γ) : Option γ := asI v fun i => onI i k fun _ => none
end

noncomputable def getL (l : List (Option V)) (n : Nat) : Option V := @List.rec (Option V) (fun _ => Nat → Option V) (fun _ => none) (fun o _ ih n => natc n o ih) l n
noncomputable def setL (l : List (Option V)) (n : Nat) (v : V) : Option (List (Option V)) :=
  @List.rec (Option V) (fun _ => Nat → Option (List (Option V))) (fun _ => none) (fun o r ih n => natc n (some (some v :: r)) fun k => bo (ih k) fun r' => some (o :: r')) l n
noncomputable def hget (l : Hp) (n : Nat) : Option (List V) := @List.rec (Nat × List V) (fun _ => Option (List V)) none (fun e _ ih => yn (Nat.beq e.1 n) ih (some e.2)) l
noncomputable def hset (l : Hp) (n : Nat) (ys : List V) : Hp := @List.rec (Nat × List V) (fun _ => Hp) [] (fun e r ih => yn (Nat.beq e.1 n) (e :: ih) ((e.1, ys) :: r)) l
noncomputable def hdel (l : Hp) (n : Nat) : Hp := @List.rec (Nat × List V) (fun _ => Hp) [] (fun e r ih => yn (Nat.beq e.1 n) (e :: ih) r) l
noncomputable def nth (l : List V) (n : Nat) : Option V := @List.rec V (fun _ => Nat → Option V) (fun _ => none) (fun o _ ih n => natc n (some o) ih) l n
noncomputable def setNth (l : List V) (n : Nat) (v : V) : Option (List V) :=
  @List.rec V (fun _ => Nat → Option (List V)) (fun _ => none) (fun o r ih n => natc n (some (v :: r)) fun k => bo (ih k) fun r' => some (o :: r')) l n
noncomputable def lenL (l : List V) : Nat := @List.rec V (fun _ => Nat) 0 (fun _ _ ih => Nat.succ ih) l
noncomputable def appL (l m : List V) : List V := @List.rec V (fun _ => List V) m (fun o _ ih => o :: ih) l
noncomputable def repL (xs : List V) (n : Nat) : List V := @Nat.rec (fun _ => List V) [] (fun _ ih => appL xs ih) n
noncomputable def takeN (n : Nat) (xs : List V) : List V := @Nat.rec (fun _ => List V → List V) (fun _ => []) (fun _ ih xs => @List.rec V (fun _ => List V) [] (fun x r _ => x :: ih r) xs) n xs
noncomputable def dropN (n : Nat) (xs : List V) : List V := @Nat.rec (fun _ => List V → List V) (fun xs => xs) (fun _ ih xs => @List.rec V (fun _ => List V) [] (fun _ r _ => ih r) xs) n xs

noncomputable def items (v : V) (hp : Hp) : Option (List V) := onV v (fun _ => none) (fun _ => none) (fun _ => none) (fun xs => some xs) (fun _ => none) (fun n => hget hp n)
noncomputable def seqOf (v : V) (hp : Hp) : Option (List V) := onV v (fun _ => none) (fun _ => none) (fun _ => none) (fun xs => some xs) (fun xs => some xs) (fun n => hget hp n)
/-- an owned list is frozen: it leaves the owned ones -/
noncomputable def frz (v : V) (st : St) (k : V → St → RR) : RR := onV v (fun _ => k v st) (fun _ => k v st) (fun _ => k v st) (fun _ => k v st) (fun _ => k v st)
  (fun n => bo (hget st.hp n) fun xs => k (.lst xs) ⟨st.lm, hdel st.hp n, st.nx⟩)
noncomputable def new (mu : Bool) (xs : List V) (st : St) (k : V → St → RR) : RR := yn mu (k (.lst xs) st) (k (.ref st.nx) ⟨st.lm, (st.nx, xs) :: st.hp, Nat.succ st.nx⟩)
noncomputable def isRef (v : V) : Bool := onV v (fun _ => false) (fun _ => false) (fun _ => false) (fun _ => false) (fun _ => false) (fun _ => true)

noncomputable def iadd (a b : Int) : Int := onI a (fun m => onI b (fun n => .ofNat (Nat.add m n)) (fun _ => a + b)) (fun _ => a + b)
noncomputable def isub (a b : Int) : Int := onI a (fun m => onI b (fun n => yn (Nat.ble n m) (a - b) (.ofNat (Nat.sub m n))) (fun _ => a - b)) (fun _ => a - b)
noncomputable def ieq (a b : Int) : Bool := onI a (fun m => onI b (fun n => Nat.beq m n) (fun _ => false)) (fun m => onI b (fun _ => false) (fun n => Nat.beq m n))
noncomputable def ilt (a b : Int) : Bool := onI a (fun m => onI b (fun n => Nat.ble (Nat.succ m) n) (fun _ => false)) (fun m => onI b (fun _ => true) (fun n => Nat.ble (Nat.succ n) m))
noncomputable def ile (a b : Int) : Bool := onI a (fun m => onI b (fun n => Nat.ble m n) (fun _ => false)) (fun m => onI b (fun _ => true) (fun n => Nat.ble n m))
/-- below 2 ^ 60 -/
noncomputable def small (n : Nat) : Bool := Nat.ble n 1152921504606846975

noncomputable def fAdd (a b : Int) : Option Int := some (iadd a b)
noncomputable def fSub (a b : Int) : Option Int := some (isub a b)
noncomputable def fMul (a b : Int) : Option Int := onI a (fun m => onI b (fun n => yn (small m) none (some (.ofNat (Nat.mul m n)))) (fun _ => none)) (fun _ => none)
noncomputable def fDiv (a b : Int) : Option Int := onI a (fun m => onI b (fun n => natc n none fun k => yn (small k) none (some (.ofNat (Nat.div m n)))) (fun _ => none)) (fun _ => none)
noncomputable def fMod (a b : Int) : Option Int := onI b (fun n => natc n none fun _ => onI a (fun m => some (.ofNat (Nat.mod m n))) (fun _ => some (a.fmod b))) (fun _ => none)
noncomputable def fShl (a b : Int) : Option Int := onI a (fun m => onI b (fun n => yn (small m) none (yn (Nat.ble n 1000) none (some (.ofNat (Nat.mul m (Nat.pow 2 n)))))) (fun _ => none)) (fun _ => none)
noncomputable def fShr (a b : Int) : Option Int := onI a (fun m => onI b (fun n => some (.ofNat (Nat.div m (Nat.pow 2 n)))) (fun _ => none)) (fun _ => none)
noncomputable def fAnd (a b : Int) : Option Int := onI a (fun m => onI b (fun n => some (.ofNat (Nat.land m n))) (fun _ => none)) (fun _ => none)
noncomputable def fOr (a b : Int) : Option Int := onI a (fun m => onI b (fun n => some (.ofNat (Nat.lor m n))) (fun _ => none)) (fun _ => none)
noncomputable def fPow (a b : Int) : Option Int := onI a (fun m => onI b (fun n => yn (Nat.ble m 255) none (yn (Nat.ble n 1000) none (some (.ofNat (Nat.pow m n))))) (fun _ => none)) (fun _ => none)

noncomputable def mapO {α β : Type} (f : α → Option β) (l : List α) : Option (List β) := @List.rec α (fun _ => Option (List β)) (some []) (fun x _ ih => bo (f x) fun y => bo ih fun r => some (y :: r)) l
/-- a tree as data, n deep at most -/
noncomputable def toPy (n : Nat) : V → Option PyData := @Nat.rec (fun _ => V → Option PyData) (fun _ => none)
  (fun _ ih v => onV v (fun i => some (.int i)) (fun b => some (.bool b)) (fun _ => none) (fun xs => bo (mapO ih xs) fun r => some (.list r)) (fun xs => bo (mapO ih xs) fun r => some (.tuple r)) (fun _ => none)) n
noncomputable def eqD (a b : V) : Option Bool := bo (toPy 8 a) fun x => bo (toPy 8 b) fun y => some (PyData.eqv x y)
noncomputable def eqO (a b : V) : Option Bool := onV a (fun i => asI b fun j => some (ieq i j)) (fun p => asB b fun q => some (Bool.rec (Bool.rec true false q) q p)) (fun _ => none) (fun _ => eqD a b) (fun _ => eqD a b) (fun _ => none)
/- comparisons: the way of true, the way of false -/
noncomputable def kEq (a b : V) (t f : RR) : RR := bo (eqO a b) fun c => yn c f t
noncomputable def kNe (a b : V) (t f : RR) : RR := bo (eqO a b) fun c => yn c t f
noncomputable def kLt (a b : V) (t f : RR) : RR := asI a fun i => asI b fun j => yn (ilt i j) f t
noncomputable def kLe (a b : V) (t f : RR) : RR := asI a fun i => asI b fun j => yn (ile i j) f t
noncomputable def kGt (a b : V) (t f : RR) : RR := asI a fun i => asI b fun j => yn (ilt j i) f t
noncomputable def kGe (a b : V) (t f : RR) : RR := asI a fun i => asI b fun j => yn (ile j i) f t

noncomputable def place (i : Int) (n : Nat) : Option Nat := onI i (fun k => some k) fun k => yn (Nat.ble (Nat.succ k) n) none (some (Nat.sub n (Nat.succ k)))
/-- a bound of a slice, as its place in a list of n items -/
noncomputable def bound (d n : Nat) (o : Option V) : Option Nat := @Option.rec V (fun _ => Option Nat) (some d)
  (fun v => asI v fun i => onI i (fun k => some (yn (Nat.ble k n) n k)) fun k => some (yn (Nat.ble (Nat.succ k) n) 0 (Nat.sub n (Nat.succ k)))) o
noncomputable def shortL (xs : List V) : Bool := Nat.ble (lenL xs) 4096

/- the pieces of expressions -/
noncomputable def cVal (v : V) : CE := fun _ st k => k v st
noncomputable def cLoc (i : Nat) : CE := fun _ st k => bo (getL st.lm i) fun v => k v st
noncomputable def cNeg (a : CE) : CE := fun ca st k => a ca st fun v st => asI v fun i => k (.int (-i)) st
noncomputable def cNot (a : CE) : CE := fun ca st k => a ca st fun v st => asB v fun b => yn b (k (.bool true) st) (k (.bool false) st)
noncomputable def cBin (f : Int → Int → Option Int) (a b : CE) : CE := fun ca st k => a ca st fun x st => b ca st fun y st => asI x fun i => asI y fun j => bo (f i j) fun z => k (.int z) st
noncomputable def cCat (mu : Bool) (a b : CE) : CE := fun ca st k => a ca st fun x st => b ca st fun y st => bo (items x st.hp) fun xs => bo (items y st.hp) fun ys => yn (shortL xs) none (yn (shortL ys) none (new mu (appL xs ys) st k))
noncomputable def cRep (mu : Bool) (a b : CE) : CE := fun ca st k => a ca st fun x st => b ca st fun y st => bo (items x st.hp) fun xs => asN y fun n => yn (shortL xs) none (yn (Nat.ble n 4096) none (new mu (repL xs n) st k))
noncomputable def cCmp (f : V → V → RR → RR → RR) (a b : CE) : CE := fun ca st k => a ca st fun x st => b ca st fun y st => f x y (k (.bool true) st) (k (.bool false) st)
noncomputable def cAnd (a b : CE) : CE := fun ca st k => a ca st fun x st => asB x fun t => yn t (k (.bool false) st) (b ca st k)
noncomputable def cIfe (t : CC) (a b : CE) : CE := fun ca st k => t ca st (fun st => a ca st k) (fun st => b ca st k)
/-- the items, each frozen -/
noncomputable def evF (ca : Ca) (l : List CE) (st : St) (k : List V → St → RR) : RR := @List.rec CE (fun _ => St → (List V → St → RR) → RR) (fun st k => k [] st)
  (fun f _ ih st k => f ca st fun v st => frz v st fun v st => ih st fun vs st => k (v :: vs) st) l st k
/-- the items as they are -/
noncomputable def evR (ca : Ca) (l : List CE) (st : St) (k : List V → St → RR) : RR := @List.rec CE (fun _ => St → (List V → St → RR) → RR) (fun st k => k [] st)
  (fun f _ ih st k => f ca st fun v st => ih st fun vs st => k (v :: vs) st) l st k
noncomputable def evO (ca : Ca) (o : Option CE) (st : St) (k : Option V → St → RR) : RR := @Option.rec CE (fun _ => RR) (k none st) (fun f => f ca st fun v st => k (some v) st) o
noncomputable def cCallI (f : CE) (as : List CE) : CE := fun ca st k => f ca st fun v st => asF v fun n => evR ca as st fun vs st => bo (ca.run n vs st.hp st.nx) fun r => k r.1 ⟨st.lm, r.2.1, r.2.2⟩
noncomputable def cCallP (f : CE) (as : List CE) : CE := fun ca st k => f ca st fun v st => asF v fun n => evF ca as st fun vs st => bo (ca.pure n vs) fun v => k v st
noncomputable def cLen (a : CE) : CE := fun ca st k => a ca st fun v st => bo (items v st.hp) fun xs => yn (shortL xs) none (k (.int (.ofNat (lenL xs))) st)
noncomputable def cMin (a b : CE) : CE := fun ca st k => a ca st fun x st => b ca st fun y st => asI x fun i => asI y fun j => yn (ilt j i) (k x st) (k y st)
noncomputable def cBits (a : CE) : CE := fun ca st k => a ca st fun x st => asN x fun m => k (.int (.ofNat (natc m 0 fun _ => Nat.succ (Nat.log2 m)))) st
noncomputable def cSub (a b : CE) : CE := fun ca st k => a ca st fun x st => b ca st fun y st => asI y fun j => bo (seqOf x st.hp) fun xs => yn (shortL xs) none (bo (place j (lenL xs)) fun n => bo (nth xs n) fun v => k v st)
noncomputable def cSlice (mu : Bool) (a : CE) (lo hi : Option CE) : CE := fun ca st k => a ca st fun x st => evO ca lo st fun l st => evO ca hi st fun h st => bo (items x st.hp) fun xs =>
  yn (shortL xs) none (bo (bound 0 (lenL xs) l) fun i => bo (bound (lenL xs) (lenL xs) h) fun j => new mu (takeN (Nat.sub j i) (dropN i xs)) st k)
noncomputable def cTup (as : List CE) : CE := fun ca st k => evF ca as st fun vs st => yn (shortL vs) none (k (.tup vs) st)
noncomputable def cLst (mu : Bool) (as : List CE) : CE := fun ca st k => evF ca as st fun vs st => yn (shortL vs) none (new mu vs st k)
noncomputable def elC (ca : Ca) (n : Nat) (wv x : V) : Option V := yn (isRef x) (bo (ca.pure n [x, wv]) fun v => some (.tup [.bool false, v])) none
noncomputable def elA (x : V) : Option V := asI x fun i => some (.int (onI i (fun k => .ofNat k) fun k => .ofNat (Nat.succ k)))
/-- the list that a block makes: el tells its items -/
noncomputable def cBlk (el : V → Option V) (a : CE) : CE := fun ca st k => a ca st fun x st => asL x fun xs => yn (shortL xs) none (bo (mapO el xs) fun vs => k (.lst vs) st)
noncomputable def cComp (n w : Nat) (a : CE) : CE := fun ca st k => bo (getL st.lm w) fun wv => yn (isRef wv) (a ca st fun x st => asL x fun xs => yn (shortL xs) none (bo (mapO (elC ca n wv) xs) fun vs => k (.lst vs) st)) none

/- conditions -/
noncomputable def tCmp (f : V → V → RR → RR → RR) (a b : CE) : CC := fun ca st kt kf => a ca st fun x st => b ca st fun y st => f x y (kt st) (kf st)
noncomputable def tAnd (a b : CC) : CC := fun ca st kt kf => a ca st (fun st => b ca st kt kf) kf
noncomputable def tLoc (i : Nat) : CC := fun _ st kt kf => bo (getL st.lm i) fun v => asB v fun b => yn b (kf st) (kt st)

/- the pieces of statements -/
noncomputable def put (x : Nat) (v : V) (st : St) (k : St → RR) : RR := bo (setL st.lm x v) fun l => k ⟨l, st.hp, st.nx⟩
/-- the swapped stores: from the last to the first -/
noncomputable def putR (xs : List Nat) (vs : List V) (st : St) (k : St → RR) : RR := @List.rec Nat (fun _ => List V → (St → RR) → RR) (fun vs k => @List.rec V (fun _ => RR) (k st) (fun _ _ _ => none) vs)
  (fun x _ ih vs k => @List.rec V (fun _ => RR) none (fun v r _ => ih r fun st => put x v st k) vs) xs vs k
/-- the plain stores: from the first to the last -/
noncomputable def putF (xs : List Nat) (vs : List V) (st : St) (k : St → RR) : RR := @List.rec Nat (fun _ => List V → St → RR) (fun vs st => @List.rec V (fun _ => RR) (k st) (fun _ _ _ => none) vs)
  (fun x _ ih vs st => @List.rec V (fun _ => RR) none (fun v r _ => put x v st fun st => ih r st) vs) xs vs st

noncomputable def whl (ca : Ca) (c : CC) (b : CS) (k : St → RR) (n : Nat) (st : St) : RR := @Nat.rec (fun _ => St → RR) (fun _ => none) (fun _ ih st => c ca st (fun st => b ca st ih) k) n st
/-- range(a, ..): n turns by steps of d -/
noncomputable def forR (ca : Ca) (x : Nat) (b : CS) (k : St → RR) (d : Int) (n : Nat) (a : Int) (st : St) : RR := @Nat.rec (fun _ => Int → St → RR) (fun _ st => k st)
  (fun _ ih a st => put x (.int a) st fun st => b ca st (ih (iadd a d))) n a st
/-- over a list that is asked anew at each turn -/
noncomputable def forL (ca : Ca) (s : Nat → V → St → (St → RR) → RR) (a : V) (b : CS) (k : St → RR) (n i : Nat) (st : St) : RR := @Nat.rec (fun _ => Nat → St → RR) (fun _ _ => none)
  (fun _ ih i st => bo (items a st.hp) fun xs => @Option.rec V (fun _ => RR) (k st) (fun v => s i v st fun st => b ca st (ih (Nat.succ i))) (nth xs i)) n i st
/-- how many turns, from where, by what step -/
noncomputable def rng (vs : List V) : Option (Nat × Int × Int) := match vs with
  | [v] => asN v fun n => yn (small n) none (some (n, 0, 1))
  | [u, v] => asN u fun m => asN v fun n => yn (small n) none (yn (small m) none (some (Nat.sub n m, .ofNat m, 1)))
  | [u, v, w] => asI u fun a => asI v fun b => asI w fun c => yn (ieq b (-1)) none (yn (ieq c (-1)) none (onI a (fun n => yn (small n) none (some (Nat.succ n, .ofNat n, -1))) fun k => natc k (some (0, -1, -1)) fun _ => none))
  | _ => none

noncomputable def sNil : CS := fun _ st k => k st
noncomputable def sSeq (a b : CS) : CS := fun ca st k => a ca st fun st => b ca st k
noncomputable def sAsg (x : Nat) (e : CE) : CS := fun ca st k => e ca st fun v st => put x v st k
noncomputable def sAsgT (xs : List Nat) (es : List CE) : CS := fun ca st k => evR ca es st fun vs st => putR xs vs st k
noncomputable def sAsgU (xs : List Nat) (e : CE) : CS := fun ca st k => e ca st fun v st => asT v fun vs => putF xs vs st k
noncomputable def sAsgS (o : Nat) (i e : CE) : CS := fun ca st k => e ca st fun v st => yn (isRef v) (bo (getL st.lm o) fun w => asR w fun n => i ca st fun j st => asI j fun j =>
  bo (hget st.hp n) fun xs => yn (shortL xs) none (bo (place j (lenL xs)) fun p => bo (setNth xs p v) fun ys => k ⟨st.lm, hset st.hp n ys, st.nx⟩)) none
noncomputable def sAug (x : Nat) (f : Int → Int → Option Int) (e : CE) : CS := fun ca st k => bo (getL st.lm x) fun u => asI u fun a => e ca st fun v st => asI v fun b => bo (f a b) fun z => put x (.int z) st k
noncomputable def sApp (x : Nat) (e : CE) : CS := fun ca st k => bo (getL st.lm x) fun u => asR u fun n => bo (hget st.hp n) fun _ => e ca st fun v st => yn (isRef v) (bo (hget st.hp n) fun xs => yn (shortL xs) none (k ⟨st.lm, hset st.hp n (appL xs [v]), st.nx⟩)) none
noncomputable def sIf (t : CC) (b o : CS) : CS := fun ca st k => t ca st (fun st => b ca st k) (fun st => o ca st k)
noncomputable def sWhl (t : CC) (b : CS) : CS := fun ca st k => whl ca t b k 200 st
noncomputable def sForR (x : Nat) (as : List CE) (b : CS) : CS := fun ca st k => evR ca as st fun vs st => bo (rng vs) fun r => forR ca x b k r.2.2 r.1 r.2.1 st
noncomputable def sForL (x : Nat) (e : CE) (b : CS) : CS := fun ca st k => e ca st fun a st => forL ca (fun _ v st k => put x v st k) a b k 200 0 st
noncomputable def sForE (i x : Nat) (e : CE) (b : CS) : CS := fun ca st k => e ca st fun a st => forL ca (fun n v st k => put i (.int (.ofNat n)) st fun st => put x v st k) a b k 200 0 st
noncomputable def sRet (e : CE) : CS := fun ca st _ => e ca st fun v st => frz v st fun v st => some (v, st.hp, st.nx)
noncomputable def sNo : CS := fun _ _ _ => none

/-- a def: how many parameters, how many names, its body -/
structure Fc where
  ps : Nat
  ns : Nat
  body : CS
noncomputable def nones (n : Nat) : List (Option V) := @Nat.rec (fun _ => List (Option V)) [] (fun _ ih => none :: ih) n
noncomputable def binds (n : Nat) (vs : List V) : List (Option V) := @List.rec V (fun _ => List (Option V)) (nones (Nat.sub n (lenL vs))) (fun v _ ih => some v :: ih) vs
noncomputable def runF (ih : Ca) (f : Fc) (vs : List V) (hp : Hp) (n : Nat) : RR := yn (Nat.beq f.ps (lenL vs)) none (f.body ih ⟨binds f.ns vs, hp, n⟩ fun _ => none)
noncomputable def Ca.bot : Ca := ⟨fun _ _ _ _ => none, fun _ _ => none⟩
noncomputable def step (tab : Nat → List V → Option V) (ft : Nat → Option Fc) (ih : Ca) : Ca :=
  { run := fun k vs hp n => bo (ft k) fun f => runF ih f vs hp n, pure := fun k vs => @Option.rec V (fun _ => Option V) (bo (ft k) fun f => bo (runF ih f vs [] 0) fun r => some r.1) some (tab k vs) }
noncomputable def cas (tab : Nat → List V → Option V) (ft : Nat → Option Fc) (n : Nat) : Ca := @Nat.rec (fun _ => Ca) Ca.bot (fun _ ih => step tab ft ih) n
end Mine

namespace Mine
open PySem
noncomputable def c_normal : CS := (sSeq (sAsg 1 (cLen (cLoc 0))) (sSeq (sWhl (tAnd (tCmp kGt (cLoc 1) (cVal (.int 0))) (tCmp kEq (cSub (cLoc 0) (cBin fSub (cLoc 1) (cVal (.int 1)))) (cVal (.int 0)))) (sSeq (sAug 1 fSub (cVal (.int 1))) sNil)) (sSeq (sRet (cSlice false (cLoc 0) none (some (cLoc 1)))) sNil)))
noncomputable def c_compare : CS := (sSeq (sIf (tCmp kNe (cLen (cLoc 0)) (cLen (cLoc 1))) (sSeq (sRet (cIfe (tCmp kLt (cLen (cLoc 0)) (cLen (cLoc 1))) (cNeg (cVal (.int 1))) (cVal (.int 1)))) sNil) sNil) (sSeq (sForR 2 [(cBin fSub (cLen (cLoc 0)) (cVal (.int 1))), (cNeg (cVal (.int 1))), (cNeg (cVal (.int 1)))] (sSeq (sIf (tCmp kNe (cSub (cLoc 0) (cLoc 2)) (cSub (cLoc 1) (cLoc 2))) (sSeq (sRet (cIfe (tCmp kLt (cSub (cLoc 0) (cLoc 2)) (cSub (cLoc 1) (cLoc 2))) (cNeg (cVal (.int 1))) (cVal (.int 1)))) sNil) sNil) sNil)) (sSeq (sRet (cVal (.int 0))) sNil)))
noncomputable def c_add : CS := (sSeq (sIf (tCmp kLt (cLen (cLoc 0)) (cLen (cLoc 1))) (sSeq (sAsgT [0, 1] [(cLoc 1), (cLoc 0)]) sNil) sNil) (sSeq (sAsgT [3, 4, 5] [(cLst true []), (cVal (.int 0)), (cBin fSub (cBin fShl (cVal (.int 1)) (cLoc 2)) (cVal (.int 1)))]) (sSeq (sForR 6 [(cLen (cLoc 1))] (sSeq (sAug 4 fAdd (cBin fAdd (cSub (cLoc 0) (cLoc 6)) (cSub (cLoc 1) (cLoc 6)))) (sSeq (sApp 3 (cBin fAnd (cLoc 4) (cLoc 5))) (sSeq (sAug 4 fShr (cLoc 2)) sNil)))) (sSeq (sForR 6 [(cLen (cLoc 1)), (cLen (cLoc 0))] (sSeq (sAug 4 fAdd (cSub (cLoc 0) (cLoc 6))) (sSeq (sApp 3 (cBin fAnd (cLoc 4) (cLoc 5))) (sSeq (sAug 4 fShr (cLoc 2)) sNil)))) (sSeq (sIf (tCmp kGt (cLoc 4) (cVal (.int 0))) (sSeq (sApp 3 (cLoc 4)) sNil) sNil) (sSeq (sRet (cLoc 3)) sNil))))))
noncomputable def c_sub : CS := (sSeq (sIf (tCmp kLt (cCallP (cVal (.fn 1)) [(cLoc 0), (cLoc 1)]) (cVal (.int 0))) (sSeq sNo sNil) sNil) (sSeq (sAsgT [3, 4, 5] [(cLst true []), (cVal (.int 0)), (cBin fShl (cVal (.int 1)) (cLoc 2))]) (sSeq (sForR 6 [(cLen (cLoc 0))] (sSeq (sAsg 7 (cBin fSub (cBin fSub (cSub (cLoc 0) (cLoc 6)) (cLoc 4)) (cIfe (tCmp kLt (cLoc 6) (cLen (cLoc 1))) (cSub (cLoc 1) (cLoc 6)) (cVal (.int 0))))) (sSeq (sAsg 4 (cIfe (tCmp kLt (cLoc 7) (cVal (.int 0))) (cVal (.int 1)) (cVal (.int 0)))) (sSeq (sApp 3 (cIfe (tCmp kLt (cLoc 7) (cVal (.int 0))) (cBin fAdd (cLoc 7) (cLoc 5)) (cLoc 7))) sNil)))) (sSeq (sRet (cCallP (cVal (.fn 0)) [(cLoc 3)])) sNil))))
noncomputable def c_add_limb : CS := (sSeq (sAsgT [3, 4] [(cLst true []), (cBin fSub (cBin fShl (cVal (.int 1)) (cLoc 2)) (cVal (.int 1)))]) (sSeq (sForL 5 (cLoc 0) (sSeq (sAug 1 fAdd (cLoc 5)) (sSeq (sApp 3 (cBin fAnd (cLoc 1) (cLoc 4))) (sSeq (sAug 1 fShr (cLoc 2)) sNil)))) (sSeq (sIf (tCmp kGt (cLoc 1) (cVal (.int 0))) (sSeq (sApp 3 (cLoc 1)) sNil) sNil) (sSeq (sRet (cLoc 3)) sNil))))
noncomputable def c_divrem_limb : CS := (sSeq (sIf (tCmp kEq (cLoc 1) (cVal (.int 0))) (sSeq sNo sNil) sNil) (sSeq (sAsgT [3, 4] [(cRep true (cLst false [(cVal (.int 0))]) (cLen (cLoc 0))), (cVal (.int 0))]) (sSeq (sForR 5 [(cBin fSub (cLen (cLoc 0)) (cVal (.int 1))), (cNeg (cVal (.int 1))), (cNeg (cVal (.int 1)))] (sSeq (sAsg 4 (cBin fOr (cBin fShl (cLoc 4) (cLoc 2)) (cSub (cLoc 0) (cLoc 5)))) (sSeq (sAsgS 3 (cLoc 5) (cBin fDiv (cLoc 4) (cLoc 1))) (sSeq (sAug 4 fMod (cLoc 1)) sNil)))) (sSeq (sRet (cTup [(cCallP (cVal (.fn 0)) [(cLoc 3)]), (cLoc 4)])) sNil))))
noncomputable def c_shift_left : CS := (sSeq (sIf (tCmp kEq (cLen (cLoc 0)) (cVal (.int 0))) (sSeq (sRet (cLst false [])) sNil) sNil) (sSeq (sAsgT [3, 4] [(cBin fDiv (cLoc 1) (cLoc 2)), (cBin fMod (cLoc 1) (cLoc 2))]) (sSeq (sAsgT [5, 6, 7] [(cRep true (cLst false [(cVal (.int 0))]) (cLoc 3)), (cVal (.int 0)), (cBin fSub (cBin fShl (cVal (.int 1)) (cLoc 2)) (cVal (.int 1)))]) (sSeq (sForL 8 (cLoc 0) (sSeq (sAug 6 fOr (cBin fShl (cLoc 8) (cLoc 4))) (sSeq (sApp 5 (cBin fAnd (cLoc 6) (cLoc 7))) (sSeq (sAug 6 fShr (cLoc 2)) sNil)))) (sSeq (sIf (tCmp kGt (cLoc 6) (cVal (.int 0))) (sSeq (sApp 5 (cLoc 6)) sNil) sNil) (sSeq (sRet (cLoc 5)) sNil))))))
noncomputable def c_shift_right : CS := (sSeq (sAsgT [3, 4] [(cBin fDiv (cLoc 1) (cLoc 2)), (cBin fMod (cLoc 1) (cLoc 2))]) (sSeq (sAsgT [5, 6] [(cLst true []), (cBin fSub (cBin fShl (cVal (.int 1)) (cLoc 2)) (cVal (.int 1)))]) (sSeq (sForR 7 [(cLoc 3), (cLen (cLoc 0))] (sSeq (sAsg 8 (cIfe (tCmp kLt (cBin fAdd (cLoc 7) (cVal (.int 1))) (cLen (cLoc 0))) (cSub (cLoc 0) (cBin fAdd (cLoc 7) (cVal (.int 1)))) (cVal (.int 0)))) (sSeq (sApp 5 (cBin fAnd (cBin fOr (cBin fShr (cSub (cLoc 0) (cLoc 7)) (cLoc 4)) (cBin fShl (cLoc 8) (cBin fSub (cLoc 2) (cLoc 4)))) (cLoc 6))) sNil))) (sSeq (sRet (cCallP (cVal (.fn 0)) [(cLoc 5)])) sNil))))
noncomputable def c_bits : CS := (sSeq (sRet (cIfe (tCmp kGt (cLen (cLoc 0)) (cVal (.int 0))) (cBin fAdd (cBin fMul (cBin fSub (cLen (cLoc 0)) (cVal (.int 1))) (cLoc 1)) (cBits (cSub (cLoc 0) (cNeg (cVal (.int 1)))))) (cVal (.int 0)))) sNil)
noncomputable def c_signed : CS := (sSeq (sRet (cTup [(cAnd (cLoc 0) (cCmp kGt (cLen (cLoc 1)) (cVal (.int 0)))), (cLoc 1)])) sNil)
noncomputable def c_s_neg : CS := (sSeq (sRet (cCallP (cVal (.fn 9)) [(cNot (cSub (cLoc 0) (cVal (.int 0)))), (cSub (cLoc 0) (cVal (.int 1)))])) sNil)
noncomputable def c_s_add : CS := (sSeq (sIf (tCmp kEq (cSub (cLoc 0) (cVal (.int 0))) (cSub (cLoc 1) (cVal (.int 0)))) (sSeq (sRet (cCallP (cVal (.fn 9)) [(cSub (cLoc 0) (cVal (.int 0))), (cCallP (cVal (.fn 2)) [(cSub (cLoc 0) (cVal (.int 1))), (cSub (cLoc 1) (cVal (.int 1))), (cLoc 2)])])) sNil) sNil) (sSeq (sIf (tCmp kLt (cCallP (cVal (.fn 1)) [(cSub (cLoc 0) (cVal (.int 1))), (cSub (cLoc 1) (cVal (.int 1)))]) (cVal (.int 0))) (sSeq (sRet (cCallP (cVal (.fn 9)) [(cSub (cLoc 1) (cVal (.int 0))), (cCallP (cVal (.fn 3)) [(cSub (cLoc 1) (cVal (.int 1))), (cSub (cLoc 0) (cVal (.int 1))), (cLoc 2)])])) sNil) sNil) (sSeq (sRet (cCallP (cVal (.fn 9)) [(cSub (cLoc 0) (cVal (.int 0))), (cCallP (cVal (.fn 3)) [(cSub (cLoc 0) (cVal (.int 1))), (cSub (cLoc 1) (cVal (.int 1))), (cLoc 2)])])) sNil)))
noncomputable def c_s_mul : CS := (sSeq (sRet (cCallP (cVal (.fn 9)) [(cCmp kNe (cSub (cLoc 0) (cVal (.int 0))) (cSub (cLoc 1) (cVal (.int 0)))), (cCallP (cLoc 3) [(cSub (cLoc 0) (cVal (.int 1))), (cSub (cLoc 1) (cVal (.int 1))), (cLoc 2)])])) sNil)
noncomputable def c_tdiv : CS := (sSeq (sIf (tCmp kEq (cLen (cSub (cLoc 1) (cVal (.int 1)))) (cVal (.int 0))) (sSeq sNo sNil) sNil) (sSeq (sAsgU [4, 5] (cCallP (cLoc 3) [(cSub (cLoc 0) (cVal (.int 1))), (cSub (cLoc 1) (cVal (.int 1))), (cLoc 2)])) (sSeq (sRet (cTup [(cCallP (cVal (.fn 9)) [(cCmp kNe (cSub (cLoc 0) (cVal (.int 0))) (cSub (cLoc 1) (cVal (.int 0)))), (cLoc 4)]), (cCallP (cVal (.fn 9)) [(cSub (cLoc 0) (cVal (.int 0))), (cLoc 5)])])) sNil)))
noncomputable def c_fdiv : CS := (sSeq (sAsgU [4, 5] (cCallP (cVal (.fn 13)) [(cLoc 0), (cLoc 1), (cLoc 2), (cLoc 3)])) (sSeq (sIf (tAnd (tCmp kGt (cLen (cSub (cLoc 5) (cVal (.int 1)))) (cVal (.int 0))) (tCmp kNe (cSub (cLoc 0) (cVal (.int 0))) (cSub (cLoc 1) (cVal (.int 0))))) (sSeq (sRet (cTup [(cTup [(cVal (.bool true)), (cCallP (cVal (.fn 4)) [(cSub (cLoc 4) (cVal (.int 1))), (cVal (.int 1)), (cLoc 2)])]), (cCallP (cVal (.fn 11)) [(cLoc 5), (cLoc 1), (cLoc 2)])])) sNil) sNil) (sSeq (sRet (cTup [(cLoc 4), (cLoc 5)])) sNil)))
noncomputable def c_common : CS := (sSeq (sWhl (tCmp kGt (cLen (cLoc 1)) (cVal (.int 0))) (sSeq (sAsgT [0, 1] [(cLoc 1), (cSub (cCallP (cLoc 3) [(cLoc 0), (cLoc 1), (cLoc 2)]) (cVal (.int 1)))]) sNil)) (sSeq (sRet (cCallP (cVal (.fn 0)) [(cLoc 0)])) sNil))
noncomputable def c_cut_signed : CS := (sSeq (sRet (cTup [(cSub (cLoc 0) (cVal (.int 0))), (cSub (cCallP (cLoc 3) [(cSub (cLoc 0) (cVal (.int 1))), (cLoc 1), (cLoc 2)]) (cVal (.int 0)))])) sNil)
noncomputable def c_signed_of : CS := (sSeq (sRet (cTup [(cVal (.bool false)), (cLoc 0)])) sNil)
noncomputable def c_r_neg : CS := (sSeq (sRet (cTup [(cCallP (cVal (.fn 10)) [(cSub (cLoc 0) (cVal (.int 0)))]), (cSub (cLoc 0) (cVal (.int 1)))])) sNil)
noncomputable def c_r_add : CS := (sSeq (sAsg 5 (cCallP (cVal (.fn 15)) [(cSub (cLoc 0) (cVal (.int 1))), (cSub (cLoc 1) (cVal (.int 1))), (cLoc 2), (cLoc 4)])) (sSeq (sAsgT [6, 7] [(cSub (cCallP (cLoc 4) [(cSub (cLoc 0) (cVal (.int 1))), (cLoc 5), (cLoc 2)]) (cVal (.int 0))), (cSub (cCallP (cLoc 4) [(cSub (cLoc 1) (cVal (.int 1))), (cLoc 5), (cLoc 2)]) (cVal (.int 0)))]) (sSeq (sAsg 8 (cCallP (cVal (.fn 11)) [(cCallP (cVal (.fn 12)) [(cSub (cLoc 0) (cVal (.int 0))), (cCallP (cVal (.fn 17)) [(cLoc 7)]), (cLoc 2), (cLoc 3)]), (cCallP (cVal (.fn 12)) [(cSub (cLoc 1) (cVal (.int 0))), (cCallP (cVal (.fn 17)) [(cLoc 6)]), (cLoc 2), (cLoc 3)]), (cLoc 2)])) (sSeq (sIf (tCmp kEq (cLen (cSub (cLoc 8) (cVal (.int 1)))) (cVal (.int 0))) (sSeq (sRet (cTup [(cLoc 8), (cLst false [(cVal (.int 1))])])) sNil) sNil) (sSeq (sAsg 9 (cCallP (cVal (.fn 15)) [(cSub (cLoc 8) (cVal (.int 1))), (cLoc 5), (cLoc 2), (cLoc 4)])) (sSeq (sRet (cTup [(cCallP (cVal (.fn 16)) [(cLoc 8), (cLoc 9), (cLoc 2), (cLoc 4)]), (cCallP (cLoc 3) [(cLoc 6), (cSub (cCallP (cLoc 4) [(cSub (cLoc 1) (cVal (.int 1))), (cLoc 9), (cLoc 2)]) (cVal (.int 0))), (cLoc 2)])])) sNil))))))
noncomputable def c_r_sub : CS := (sSeq (sRet (cCallP (cVal (.fn 19)) [(cLoc 0), (cCallP (cVal (.fn 18)) [(cLoc 1)]), (cLoc 2), (cLoc 3), (cLoc 4)])) sNil)
noncomputable def c_r_inverse : CS := (sSeq (sIf (tCmp kEq (cLen (cSub (cSub (cLoc 0) (cVal (.int 0))) (cVal (.int 1)))) (cVal (.int 0))) (sSeq sNo sNil) sNil) (sSeq (sRet (cTup [(cTup [(cSub (cSub (cLoc 0) (cVal (.int 0))) (cVal (.int 0))), (cSub (cLoc 0) (cVal (.int 1)))]), (cSub (cSub (cLoc 0) (cVal (.int 0))) (cVal (.int 1)))])) sNil))
noncomputable def c_continued : CS := (sSeq (sAsgT [3, 4, 5] [(cLst true []), (cSub (cLoc 0) (cVal (.int 0))), (cCallP (cVal (.fn 17)) [(cSub (cLoc 0) (cVal (.int 1)))])]) (sSeq (sWhl (tCmp kGt (cLen (cSub (cLoc 5) (cVal (.int 1)))) (cVal (.int 0))) (sSeq (sAsgU [6, 7] (cCallP (cVal (.fn 14)) [(cLoc 4), (cLoc 5), (cLoc 1), (cLoc 2)])) (sSeq (sApp 3 (cLoc 6)) (sSeq (sAsgT [4, 5] [(cLoc 5), (cLoc 7)]) sNil)))) (sSeq (sRet (cLoc 3)) sNil)))
noncomputable def c_mul_school : CS := (sSeq (sAsgT [3, 4] [(cRep true (cLst false [(cVal (.int 0))]) (cBin fAdd (cLen (cLoc 0)) (cLen (cLoc 1)))), (cBin fSub (cBin fShl (cVal (.int 1)) (cLoc 2)) (cVal (.int 1)))]) (sSeq (sForE 5 6 (cLoc 0) (sSeq (sAsg 7 (cVal (.int 0))) (sSeq (sForE 8 9 (cLoc 1) (sSeq (sAug 7 fAdd (cBin fAdd (cSub (cLoc 3) (cBin fAdd (cLoc 5) (cLoc 8))) (cBin fMul (cLoc 6) (cLoc 9)))) (sSeq (sAsgS 3 (cBin fAdd (cLoc 5) (cLoc 8)) (cBin fAnd (cLoc 7) (cLoc 4))) (sSeq (sAug 7 fShr (cLoc 2)) sNil)))) (sSeq (sAsgS 3 (cBin fAdd (cLoc 5) (cLen (cLoc 1))) (cLoc 7)) sNil)))) (sSeq (sRet (cCallP (cVal (.fn 0)) [(cLoc 3)])) sNil)))
noncomputable def c_divrem_small : CS := (sSeq (sAsgU [3, 4] (cCallP (cVal (.fn 5)) [(cLoc 0), (cSub (cLoc 1) (cVal (.int 0))), (cLoc 2)])) (sSeq (sRet (cTup [(cLoc 3), (cIfe (tCmp kGt (cLoc 4) (cVal (.int 0))) (cLst false [(cLoc 4)]) (cLst false []))])) sNil))
noncomputable def c_guessed_limb : CS := (sSeq (sAsgT [4, 5] [(cBin fOr (cBin fShl (cSub (cLoc 0) (cVal (.int 2))) (cLoc 3)) (cSub (cLoc 0) (cVal (.int 1)))), (cBin fShl (cVal (.int 1)) (cLoc 3))]) (sSeq (sAsg 6 (cMin (cBin fDiv (cLoc 4) (cLoc 1)) (cBin fSub (cLoc 5) (cVal (.int 1))))) (sSeq (sAsg 7 (cBin fSub (cLoc 4) (cBin fMul (cLoc 6) (cLoc 1)))) (sSeq (sWhl (tAnd (tCmp kLt (cLoc 7) (cLoc 5)) (tCmp kGt (cBin fMul (cLoc 6) (cLoc 2)) (cBin fOr (cBin fShl (cLoc 7) (cLoc 3)) (cSub (cLoc 0) (cVal (.int 0)))))) (sSeq (sAug 6 fSub (cVal (.int 1))) (sSeq (sAug 7 fAdd (cLoc 1)) sNil))) (sSeq (sRet (cLoc 6)) sNil)))))
noncomputable def c_take_away : CS := (sSeq (sAsgT [5, 6] [(cVal (.int 0)), (cBin fShl (cVal (.int 1)) (cLoc 4))]) (sSeq (sForE 7 8 (cLoc 1) (sSeq (sAsg 9 (cBin fSub (cSub (cLoc 0) (cBin fAdd (cLoc 3) (cLoc 7))) (cBin fMod (cBin fAdd (cBin fMul (cLoc 2) (cLoc 8)) (cLoc 5)) (cLoc 6)))) (sSeq (sAsg 5 (cBin fAdd (cBin fDiv (cBin fAdd (cBin fMul (cLoc 2) (cLoc 8)) (cLoc 5)) (cLoc 6)) (cIfe (tCmp kLt (cLoc 9) (cVal (.int 0))) (cVal (.int 1)) (cVal (.int 0))))) (sSeq (sAsgS 0 (cBin fAdd (cLoc 3) (cLoc 7)) (cIfe (tCmp kLt (cLoc 9) (cVal (.int 0))) (cBin fAdd (cLoc 9) (cLoc 6)) (cLoc 9))) sNil)))) (sSeq (sAsg 9 (cBin fSub (cSub (cLoc 0) (cBin fAdd (cLoc 3) (cLen (cLoc 1)))) (cLoc 5))) (sSeq (sAsgS 0 (cBin fAdd (cLoc 3) (cLen (cLoc 1))) (cIfe (tCmp kLt (cLoc 9) (cVal (.int 0))) (cBin fAdd (cLoc 9) (cLoc 6)) (cLoc 9))) (sSeq (sRet (cIfe (tCmp kLt (cLoc 9) (cVal (.int 0))) (cVal (.int 1)) (cVal (.int 0)))) sNil)))))
noncomputable def c_put_back : CS := (sSeq (sAsgT [4, 5] [(cVal (.int 0)), (cBin fSub (cBin fShl (cVal (.int 1)) (cLoc 3)) (cVal (.int 1)))]) (sSeq (sForE 6 7 (cLoc 1) (sSeq (sAug 4 fAdd (cBin fAdd (cSub (cLoc 0) (cBin fAdd (cLoc 2) (cLoc 6))) (cLoc 7))) (sSeq (sAsgS 0 (cBin fAdd (cLoc 2) (cLoc 6)) (cBin fAnd (cLoc 4) (cLoc 5))) (sSeq (sAug 4 fShr (cLoc 3)) sNil)))) (sSeq (sAsgS 0 (cBin fAdd (cLoc 2) (cLen (cLoc 1))) (cBin fAnd (cBin fAdd (cSub (cLoc 0) (cBin fAdd (cLoc 2) (cLen (cLoc 1)))) (cLoc 4)) (cLoc 5))) sNil)))
noncomputable def c_divide_rows : CS := (sSeq (sAsg 3 (cLen (cLoc 1))) (sSeq (sAsg 4 (cRep true (cLst false [(cVal (.int 0))]) (cBin fSub (cLen (cLoc 0)) (cLoc 3)))) (sSeq (sForR 5 [(cBin fSub (cBin fSub (cLen (cLoc 0)) (cLoc 3)) (cVal (.int 1))), (cNeg (cVal (.int 1))), (cNeg (cVal (.int 1)))] (sSeq (sAsg 6 (cCallP (cVal (.fn 25)) [(cSlice false (cLoc 0) (some (cBin fSub (cBin fAdd (cLoc 5) (cLoc 3)) (cVal (.int 2)))) (some (cBin fAdd (cBin fAdd (cLoc 5) (cLoc 3)) (cVal (.int 1))))), (cSub (cLoc 1) (cBin fSub (cLoc 3) (cVal (.int 1)))), (cSub (cLoc 1) (cBin fSub (cLoc 3) (cVal (.int 2)))), (cLoc 2)])) (sSeq (sIf (tCmp kEq (cCallI (cVal (.fn 26)) [(cLoc 0), (cLoc 1), (cLoc 6), (cLoc 5), (cLoc 2)]) (cVal (.int 1))) (sSeq (sAug 6 fSub (cVal (.int 1))) (sSeq sNo sNil)) sNil) (sSeq (sAsgS 4 (cLoc 5) (cLoc 6)) sNil)))) (sSeq (sRet (cLoc 4)) sNil))))
noncomputable def c_divrem_school : CS := (sSeq (sIf (tCmp kEq (cLen (cLoc 1)) (cVal (.int 0))) (sSeq sNo sNil) sNil) (sSeq (sIf (tCmp kLt (cCallP (cVal (.fn 1)) [(cLoc 0), (cLoc 1)]) (cVal (.int 0))) (sSeq (sRet (cTup [(cLst false []), (cSlice false (cLoc 0) none none)])) sNil) sNil) (sSeq (sIf (tCmp kEq (cLen (cLoc 1)) (cVal (.int 1))) (sSeq (sRet (cCallP (cVal (.fn 24)) [(cLoc 0), (cLoc 1), (cLoc 2)])) sNil) sNil) (sSeq (sAsg 3 (cBin fSub (cLoc 2) (cCallP (cVal (.fn 8)) [(cLst false [(cSub (cLoc 1) (cNeg (cVal (.int 1))))]), (cLoc 2)]))) (sSeq (sAsg 4 (cCallP (cVal (.fn 6)) [(cLoc 1), (cLoc 3), (cLoc 2)])) (sSeq (sAsg 5 (cCallP (cVal (.fn 6)) [(cLoc 0), (cLoc 3), (cLoc 2)])) (sSeq (sAsg 5 (cCat true (cLoc 5) (cRep false (cLst false [(cVal (.int 0))]) (cBin fSub (cBin fAdd (cLen (cLoc 0)) (cVal (.int 1))) (cLen (cLoc 5)))))) (sSeq (sAsg 6 (cCallI (cVal (.fn 28)) [(cLoc 5), (cLoc 4), (cLoc 2)])) (sSeq (sRet (cTup [(cCallP (cVal (.fn 0)) [(cLoc 6)]), (cCallP (cVal (.fn 7)) [(cCallP (cVal (.fn 0)) [(cLoc 5)]), (cLoc 3), (cLoc 2)])])) sNil)))))))))
noncomputable def c_law_strolled : CS := (sSeq (sAsgS 0 (cVal (.int 0)) (cBin fAdd (cSub (cLoc 0) (cVal (.int 0))) (cVal (.int 1)))) (sSeq (sIf (tCmp kLe (cSub (cLoc 0) (cVal (.int 0))) (cLen (cSub (cLoc 0) (cVal (.int 1))))) (sSeq (sRet (cBin fMod (cSub (cSub (cLoc 0) (cVal (.int 1))) (cBin fSub (cSub (cLoc 0) (cVal (.int 0))) (cVal (.int 1)))) (cLoc 1))) sNil) sNil) (sSeq (sRet (cBin fMod (cBin fAdd (cBin fAdd (cBin fMul (cVal (.int 5)) (cSub (cLoc 0) (cVal (.int 0)))) (cBin fDiv (cSub (cLoc 0) (cVal (.int 0))) (cVal (.int 2)))) (cVal (.int 3))) (cLoc 1))) sNil)))
noncomputable def c_law_limbs : CS := (sSeq (sAsg 2 (cLst true [])) (sSeq (sWhl (tCmp kGt (cLoc 0) (cVal (.int 0))) (sSeq (sApp 2 (cBin fMod (cLoc 0) (cBin fPow (cVal (.int 2)) (cLoc 1)))) (sSeq (sAsg 0 (cBin fDiv (cLoc 0) (cBin fPow (cVal (.int 2)) (cLoc 1)))) sNil))) (sSeq (sRet (cLoc 2)) sNil)))
noncomputable def c_law_ways : CS := (sSeq (sIf (tCmp kLt (cLoc 0) (cVal (.int 2))) (sSeq (sRet (cVal (.int 1))) sNil) sNil) (sSeq (sIf (tCmp kEq (cBin fMod (cLoc 0) (cVal (.int 2))) (cVal (.int 1))) (sSeq (sRet (cCallP (cVal (.fn 32)) [(cBin fDiv (cLoc 0) (cVal (.int 2)))])) sNil) sNil) (sSeq (sRet (cBin fAdd (cCallP (cVal (.fn 32)) [(cBin fDiv (cLoc 0) (cVal (.int 2)))]) (cCallP (cVal (.fn 32)) [(cBin fSub (cBin fDiv (cLoc 0) (cVal (.int 2))) (cVal (.int 1)))]))) sNil)))
noncomputable def c_law_there : CS := (sSeq (sRet (cTup [(cTup [(cVal (.bool false)), (cCallP (cVal (.fn 31)) [(cCallP (cVal (.fn 32)) [(cLoc 0)]), (cLoc 1)])]), (cCallP (cVal (.fn 31)) [(cCallP (cVal (.fn 32)) [(cBin fAdd (cLoc 0) (cVal (.int 1)))]), (cLoc 1)])])) sNil)
noncomputable def c_law_runs : CS := (sSeq (sAsgT [1, 2] [(cLst true [(cVal (.int 0))]), (cVal (.int 1))]) (sSeq (sWhl (tCmp kGt (cLoc 0) (cVal (.int 0))) (sSeq (sIf (tCmp kNe (cBin fMod (cLoc 0) (cVal (.int 2))) (cLoc 2)) (sSeq (sAsgT [1, 2] [(cCat true (cLoc 1) (cLst false [(cVal (.int 0))])), (cBin fSub (cVal (.int 1)) (cLoc 2))]) sNil) sNil) (sSeq (sAsgS 1 (cNeg (cVal (.int 1))) (cBin fAdd (cSub (cLoc 1) (cNeg (cVal (.int 1)))) (cVal (.int 1)))) (sSeq (sAsg 0 (cBin fDiv (cLoc 0) (cVal (.int 2)))) sNil)))) (sSeq (sRet (cIfe (tAnd (tCmp kGt (cLen (cLoc 1)) (cVal (.int 1))) (tCmp kEq (cSub (cLoc 1) (cNeg (cVal (.int 1)))) (cVal (.int 1)))) (cCat false (cSlice false (cLoc 1) none (some (cNeg (cVal (.int 2))))) (cLst false [(cBin fAdd (cSub (cLoc 1) (cNeg (cVal (.int 2)))) (cVal (.int 1)))])) (cLoc 1))) sNil)))
noncomputable def c_lawBody : CS := (sSeq (sIf (tCmp kNe (cLoc 6) (cCallP (cVal (.fn 33)) [(cLoc 7), (cLoc 2)])) (sSeq (sRet (cVal (.bool false))) sNil) sNil) (sSeq (sAsg 8 (cCallP (cVal (.fn 22)) [(cLoc 6), (cLoc 2), (cVal (.fn 29))])) (sSeq (sIf (tCmp kNe (cLoc 8) (cComp 31 2 (cCallP (cVal (.fn 34)) [(cBin fAdd (cLoc 7) (cVal (.int 1)))]))) (sSeq (sRet (cVal (.bool false))) sNil) sNil) (sSeq (sIf (tCmp kNe (cCallP (cVal (.fn 19)) [(cLoc 6), (cLoc 4), (cLoc 2), (cVal (.fn 23)), (cVal (.fn 29))]) (cCallP (cVal (.fn 33)) [(cBin fAdd (cBin fMul (cVal (.int 2)) (cLoc 7)) (cVal (.int 2))), (cLoc 2)])) (sSeq (sRet (cVal (.bool false))) sNil) sNil) (sSeq (sAsg 9 (cCallP (cVal (.fn 21)) [(cCallP (cVal (.fn 19)) [(cCallP (cVal (.fn 21)) [(cLoc 6)]), (cLoc 4), (cLoc 2), (cVal (.fn 23)), (cVal (.fn 29))])])) (sSeq (sIf (tCmp kNe (cLoc 9) (cCallP (cVal (.fn 33)) [(cBin fAdd (cBin fMul (cVal (.int 2)) (cLoc 7)) (cVal (.int 1))), (cLoc 2)])) (sSeq (sRet (cVal (.bool false))) sNil) sNil) (sSeq (sAsg 10 (cCallP (cVal (.fn 11)) [(cCallP (cVal (.fn 11)) [(cSub (cLoc 8) (cVal (.int 0))), (cSub (cLoc 8) (cVal (.int 0))), (cLoc 2)]), (cTup [(cVal (.bool false)), (cLst false [(cVal (.int 1))])]), (cLoc 2)])) (sSeq (sAsg 6 (cCallP (cVal (.fn 21)) [(cCallP (cVal (.fn 20)) [(cTup [(cLoc 10), (cLst false [(cVal (.int 1))])]), (cLoc 6), (cLoc 2), (cVal (.fn 23)), (cVal (.fn 29))])])) sNil))))))))
noncomputable def c_law : CS := (sSeq (sAsg 5 (cBin fAdd (cBin fAdd (cLoc 3) (cVal (.int 1))) (cCallI (cVal (.fn 30)) [(cLoc 1), (cVal (.int 6))]))) (sSeq (sAsg 6 (cCallP (cVal (.fn 33)) [(cLoc 3), (cLoc 2)])) (sSeq (sForR 7 [(cLoc 3), (cLoc 5)] c_lawBody) (sSeq (sRet (cCmp kEq (cLoc 6) (cCallP (cVal (.fn 33)) [(cLoc 5), (cLoc 2)]))) sNil))))
noncomputable def fcs : List Fc := [⟨1, 2, c_normal⟩, ⟨2, 3, c_compare⟩, ⟨3, 7, c_add⟩, ⟨3, 8, c_sub⟩, ⟨3, 6, c_add_limb⟩, ⟨3, 6, c_divrem_limb⟩, ⟨3, 9, c_shift_left⟩, ⟨3, 9, c_shift_right⟩, ⟨2, 2, c_bits⟩, ⟨2, 2, c_signed⟩, ⟨1, 1, c_s_neg⟩, ⟨3, 3, c_s_add⟩, ⟨4, 4, c_s_mul⟩, ⟨4, 6, c_tdiv⟩, ⟨4, 6, c_fdiv⟩, ⟨4, 4, c_common⟩, ⟨4, 4, c_cut_signed⟩, ⟨1, 1, c_signed_of⟩, ⟨1, 1, c_r_neg⟩, ⟨5, 10, c_r_add⟩, ⟨5, 5, c_r_sub⟩, ⟨1, 1, c_r_inverse⟩, ⟨3, 8, c_continued⟩, ⟨3, 10, c_mul_school⟩, ⟨3, 5, c_divrem_small⟩, ⟨4, 8, c_guessed_limb⟩, ⟨5, 10, c_take_away⟩, ⟨4, 8, c_put_back⟩, ⟨3, 7, c_divide_rows⟩, ⟨3, 7, c_divrem_school⟩, ⟨2, 2, c_law_strolled⟩, ⟨2, 3, c_law_limbs⟩, ⟨1, 1, c_law_ways⟩, ⟨2, 2, c_law_there⟩, ⟨1, 3, c_law_runs⟩]
noncomputable def nthF (l : List Fc) (n : Nat) : Option Fc := @List.rec Fc (fun _ => Nat → Option Fc) (fun _ => none) (fun o _ ih n => natc n (some o) ih) l n
noncomputable def ft (k : Nat) : Option Fc := nthF fcs k
end Mine

namespace Mine
open PySem PySem.W PySem.Calls PyProof.Rows

/-- what is known of the program -/
structure Pg where
  prog : Program
  w : World
  K : Frag
  p : Program
  loose : List Str
  mean : ExcName → Option Value
  mg : Str → Option Value
  mb : Str → Option Value
  fa : Nat → Addr
  gn : Nat → Str
  nf : Nat
structure PgOK (G : Pg) : Prop where
  dbg : ∀ k, k < G.nf → (G.gn k == ("__debug__" : Str)) = false
  ns : ∀ k, k < G.nf → nsIn G.K mainGlobals (G.gn k) = some (some (.ref (G.fa k)))
  keep : ∀ k, k < G.nf → keepIn G.K (.ref (G.fa k)) = true
  len : nsIn G.K mainGlobals (Str.ofString "len") = some none
  range : nsIn G.K mainGlobals (Str.ofString "range") = some none
  min : nsIn G.K mainGlobals (Str.ofString "min") = some none
  enumerate : nsIn G.K mainGlobals (Str.ofString "enumerate") = some none
/-- what is known of a def's names -/
structure Fx where
  scope : Scope
  names : List Str
abbrev Fact := Addr → Obj → Prop
abbrev LO (vs : List Value) (n : Nat) : Obj := { cls := .type "list", data := .seq vs.toArray n }
abbrev TO (vs : List Value) (n : Nat) : Obj := { cls := .type "tuple", data := .seq vs.toArray n }
structure Cfg where
  A : Around
  env : Env
  h₀ : Heap
  L : Addr
  X : Fact
  D₀ : Fact
structure Good (G : Pg) (x : Fx) (d : Nat) (c : Cfg) : Prop where
  below : ∃ A₀ base outer, Below A₀ base outer c.h₀ ∧ c.A.frames = some (c.env :: outer)
  K : G.K.In c.h₀
  T : Top G.p G.loose G.mean G.mg G.mb c.h₀
  hh : c.A.handled = none
  depth : c.A.depth + d < recursionLimit
  units : c.A.units + 16 * d + 100 < cLine
  scope : c.env.scope = x.scope
  kind : x.scope.kind = .function
  locals : c.env.locals = c.L
  frame : c.env.frame = some c.L
  globals : c.env.globals = mainGlobals
  builtins : c.env.builtins = builtinsNs
  nd : x.names.Nodup
  nb : ∀ y ∈ x.names, (y == ("__debug__" : Str)) = false
  pg : PgOK G

mutual
/-- a value of the model reads as a frozen tree -/
inductive VF (fa : Nat → Addr) (D : Fact) : V → Value → Prop
  | int (i : Int) (t : Tok) : VF fa D (.int i) (.int i t)
  | bool (b : Bool) : VF fa D (.bool b) (.bool b)
  | fn (k : Nat) : VF fa D (.fn k) (.ref (fa k))
  | lst {xs : List V} {vs : List Value} {a : Addr} {n : Nat} : D a (LO vs n) → VFs fa D xs vs → VF fa D (.lst xs) (.ref a)
  | tup {xs : List V} {vs : List Value} {a : Addr} {n : Nat} : D a (TO vs n) → VFs fa D xs vs → VF fa D (.tup xs) (.ref a)
inductive VFs (fa : Nat → Addr) (D : Fact) : List V → List Value → Prop
  | nil : VFs fa D [] []
  | cons {x : V} {v : Value} {xs : List V} {vs : List Value} : VF fa D x v → VFs fa D xs vs → VFs fa D (x :: xs) (v :: vs)
end

theorem VFs.ind {fa : Nat → Addr} {D : Fact} {P : List V → List Value → Prop} (n : P [] []) (c : ∀ {x v xs vs}, VF fa D x v → VFs fa D xs vs → P xs vs → P (x :: xs) (v :: vs)) {xs : List V} {vs : List Value} (h : VFs fa D xs vs) : P xs vs :=
  @VFs.rec fa D (fun _ _ _ => True) (fun xs vs _ => P xs vs) (fun _ _ => trivial) (fun _ => trivial) (fun _ => trivial) (fun _ _ _ => trivial) (fun _ _ _ => trivial) n (fun a b _ h => c a b h) _ _ h
theorem VF.mono {fa : Nat → Addr} {D D' : Fact} (h : ∀ a o, D a o → D' a o) {x : V} {v : Value} (k : VF fa D x v) : VF fa D' x v :=
  @VF.rec fa D (fun x v _ => VF fa D' x v) (fun xs vs _ => VFs fa D' xs vs) (fun i t => .int i t) (fun b => .bool b) (fun k => .fn k) (fun d _ r => .lst (h _ _ d) r) (fun d _ r => .tup (h _ _ d) r) .nil (fun _ _ a r => .cons a r) _ _ k
theorem VFs.mono {fa : Nat → Addr} {D D' : Fact} (h : ∀ a o, D a o → D' a o) {xs : List V} {vs : List Value} (k : VFs fa D xs vs) : VFs fa D' xs vs := VFs.ind (P := VFs fa D') .nil (fun a _ r => .cons (a.mono h) r) k
section
variable {fa : Nat → Addr} {D : Fact}
theorem VFs.length {xs : List V} {vs : List Value} (h : VFs fa D xs vs) : lenL xs = vs.length := VFs.ind (P := fun xs vs => lenL xs = vs.length) rfl (fun _ _ r => congrArg Nat.succ r) h
theorem VFs.app {xs : List V} {vs : List Value} {ys : List V} {ws : List Value} (h : VFs fa D xs vs) (k : VFs fa D ys ws) : VFs fa D (appL xs ys) (vs ++ ws) := VFs.ind (P := fun xs vs => VFs fa D (appL xs ys) (vs ++ ws)) k (fun a _ r => .cons a r) h
theorem VFs.nth {xs : List V} {vs : List Value} {n : Nat} {x : V} (h : VFs fa D xs vs) : nth xs n = some x → ∃ v, vs[n]? = some v ∧ VF fa D x v :=
  VFs.ind (P := fun xs vs => ∀ n, Mine.nth xs n = some x → ∃ v, vs[n]? = some v ∧ VF fa D x v) (fun _ e => nomatch e) (fun a _ ih n e => by
    cases n with
    | zero => cases e; exact ⟨_, rfl, a⟩
    | succ n => exact ih n e) h n
theorem VFs.setNth {xs : List V} {vs : List Value} {n : Nat} {x : V} {v : Value} {ys : List V} (h : VFs fa D xs vs) (e : setNth xs n x = some ys) (k : VF fa D x v) : n < vs.length ∧ VFs fa D ys (vs.set n v) :=
  VFs.ind (P := fun xs vs => ∀ n ys, Mine.setNth xs n x = some ys → n < vs.length ∧ VFs fa D ys (vs.set n v)) (fun _ _ e => nomatch e) (@fun z u xs vs a r ih n ys e => by
    cases n with
    | zero => cases e; exact ⟨Nat.succ_pos _, .cons k r⟩
    | succ n =>
      have e : @Option.rec _ (fun _ => Option (List V)) none (fun r' => some (z :: r')) (Mine.setNth xs n x) = some ys := e
      cases q : Mine.setNth xs n x with
      | none => rw [q] at e; cases e
      | some zs =>
        rw [q] at e
        cases e
        exact ⟨Nat.succ_lt_succ (ih n zs q).1, .cons a (ih n zs q).2⟩) h n ys e
theorem VFs.take {xs : List V} {vs : List Value} (n : Nat) (h : VFs fa D xs vs) : VFs fa D (takeN n xs) (vs.take n) :=
  VFs.ind (P := fun xs vs => ∀ n, VFs fa D (takeN n xs) (vs.take n)) (fun n => by cases n <;> exact .nil) (fun a _ ih n => by
    cases n with
    | zero => exact .nil
    | succ n => exact .cons a (ih n)) h n
theorem VFs.drop {xs : List V} {vs : List Value} (n : Nat) (h : VFs fa D xs vs) : VFs fa D (dropN n xs) (vs.drop n) :=
  VFs.ind (P := fun xs vs => ∀ n, VFs fa D (dropN n xs) (vs.drop n)) (fun n => by cases n <;> exact .nil) (fun a r ih n => by
    cases n with
    | zero => exact .cons a r
    | succ n => exact ih n) h n
end

structure Wd where
  D : Fact
  led : List (Nat × Addr × Obj)
  m : Str → Option Value
def VR (G : Pg) (w : Wd) (nx : Nat) (v : V) (val : Value) : Prop := match v with
  | .ref n => n < nx ∧ ∀ e ∈ w.led, e.1 = n → val = .ref e.2.1
  | v => VF G.fa w.D v val
theorem VR.of {G : Pg} {w : Wd} {nx : Nat} {v : V} {val : Value} (h : VF G.fa w.D v val) : VR G w nx v val := by cases v <;> first | exact h | cases h
theorem VR.frozen {G : Pg} {w : Wd} {nx : Nat} {v : V} {val : Value} (h : VR G w nx v val) (e : isRef v = false) : VF G.fa w.D v val := by cases v <;> first | exact h | cases e
structure Ext (w : Wd) (n : Nat) (w' : Wd) (n' : Nat) : Prop where
  D : ∀ a o, w.D a o → w'.D a o
  nx : n ≤ n'
  led : ∀ e' ∈ w'.led, e'.1 < n → ∃ e ∈ w.led, e.1 = e'.1 ∧ e.2.1 = e'.2.1
theorem Ext.refl (w : Wd) (nx : Nat) : Ext w nx w nx := ⟨fun _ _ h => h, Nat.le_refl _, fun e h _ => ⟨e, h, rfl, rfl⟩⟩
theorem Ext.trans {w w' w'' : Wd} {n n' n'' : Nat} (a : Ext w n w' n') (b : Ext w' n' w'' n'') : Ext w n w'' n'' :=
  ⟨fun _ _ h => b.D _ _ (a.D _ _ h), Nat.le_trans a.nx b.nx, fun e h l => by
    obtain ⟨e1, h1, q1, q2⟩ := b.led e h (Nat.lt_of_lt_of_le l a.nx)
    obtain ⟨e2, h2, r1, r2⟩ := a.led e1 h1 (by rw [q1]; exact l)
    exact ⟨e2, h2, r1.trans q1, r2.trans q2⟩⟩
theorem VR.ext {G : Pg} {w w' : Wd} {n n' : Nat} {v : V} {val : Value} (h : VR G w n v val) (x : Ext w n w' n') : VR G w' n' v val := by
  cases v with
  | ref k => exact ⟨Nat.lt_of_lt_of_le h.1 x.nx, fun e he q => by
      obtain ⟨e1, h1, q1, q2⟩ := x.led e he (by rw [q]; exact h.1)
      rw [← q2]; exact h.2 e1 h1 (q1.trans q)⟩
  | _ => exact VF.mono x.D h

inductive LedR (fa : Nat → Addr) (D : Fact) : List (Nat × Addr × Obj) → Hp → Prop
  | nil : LedR fa D [] []
  | cons {n : Nat} {a : Addr} {vs : List Value} {k : Nat} {xs : List V} {led : List (Nat × Addr × Obj)} {hp : Hp} : VFs fa D xs vs → LedR fa D led hp → LedR fa D ((n, a, LO vs k) :: led) ((n, xs) :: hp)
theorem LedR.mono {fa : Nat → Addr} {D D' : Fact} (h : ∀ a o, D a o → D' a o) {led : List (Nat × Addr × Obj)} {hp : Hp} (k : LedR fa D led hp) : LedR fa D' led hp := by
  induction k with
  | nil => exact .nil
  | cons v _ r => exact .cons (v.mono h) r

def Loc (c : Cfg) (w : Wd) (y : Str) (val : Value) : Prop :=
  (c.env.kindOf y = some .local ∧ w.m y = some val) ∨ (c.env.kindOf y = some .cell ∧ ∃ a o, c.env.cells.lookup y = some a ∧ c.X a o ∧ o.data = .cell (some val))
structure OK (G : Pg) (x : Fx) (c : Cfg) (w : Wd) (st : St) (h : Heap) : Prop where
  F : Fr c.h₀ c.L h w.m
  xs : ∀ a o, c.X a o → h.get? a = some o ∧ a ≠ c.L
  ds : ∀ a o, w.D a o → h.get? a = some o ∧ a ≠ c.L
  xd : ∀ a o o', c.X a o → ¬ w.D a o'
  d0 : ∀ a o, w.D a o → c.D₀ a o ∨ c.h₀.get? a = none
  ls : ∀ e ∈ w.led, h.get? e.2.1 = some e.2.2 ∧ e.2.1 ≠ c.L ∧ c.h₀.get? e.2.1 = none ∧ (∀ o, ¬ c.X e.2.1 o) ∧ (∀ o, ¬ w.D e.2.1 o)
  an : (w.led.map (·.2.1)).Nodup
  kn : (w.led.map (·.1)).Nodup
  kl : ∀ e ∈ w.led, e.1 < st.nx
  lr : LedR G.fa w.D w.led st.hp
  lm : ∀ i v, getL st.lm i = some v → ∃ y val, x.names[i]? = some y ∧ VR G w st.nx v val ∧ Loc c w y val

section
variable {G : Pg} {x : Fx} {c : Cfg} {w : Wd} {st : St} {h h' : Heap} {d : Nat}
abbrev Keep (h h' : Heap) : Prop := ∀ b o, h.get? b = some o → h'.get? b = some o
theorem OK.keep (k : OK G x c w st h) (hk : Keep h h') : OK G x c w st h' where
  F := ⟨k.F.ns.keeps hk, fun b o e => hk b o (k.F.keep b o e), k.F.above⟩
  xs := fun a o e => ⟨hk _ _ (k.xs a o e).1, (k.xs a o e).2⟩
  ds := fun a o e => ⟨hk _ _ (k.ds a o e).1, (k.ds a o e).2⟩
  xd := k.xd
  d0 := k.d0
  ls := fun e he => ⟨hk _ _ (k.ls e he).1, (k.ls e he).2⟩
  an := k.an
  kn := k.kn
  kl := k.kl
  lr := k.lr
  lm := k.lm
def Wd.addD (w : Wd) (N : Fact) : Wd := { w with D := fun a o => w.D a o ∨ N a o }
theorem Ext.addD (w : Wd) (N : Fact) (nx : Nat) : Ext w nx (w.addD N) nx := ⟨fun _ _ h => .inl h, Nat.le_refl _, fun e h _ => ⟨e, h, rfl, rfl⟩⟩
theorem OK.L_in (k : OK G x c w st h) : (h.get? c.L).isSome = true := by
  obtain ⟨o, _, _, e, _⟩ := k.F.ns
  rw [e]; rfl
theorem OK.addD (k : OK G x c w st h) (hk : Keep h h') {N : Fact} (hN : ∀ a o, N a o → h'.get? a = some o ∧ h.get? a = none) : OK G x c (w.addD N) st h' where
  F := (k.keep hk).F
  xs := (k.keep hk).xs
  ds := fun a o e => e.elim (fun e => (k.keep hk).ds a o e) fun e => ⟨(hN a o e).1, fun q => by have := k.L_in; rw [← q, (hN a o e).2] at this; cases this⟩
  xd := fun a o o' hx e => e.elim (k.xd a o o' hx) fun e => by have := (k.xs a o hx).1; rw [(hN a o' e).2] at this; cases this
  d0 := fun a o e => e.elim (k.d0 a o) fun e => .inr (by
    cases q : c.h₀.get? a with
    | none => rfl
    | some o' => have := k.F.keep a o' q; rw [(hN a o e).2] at this; cases this)
  ls := fun e he => by
    obtain ⟨h1, h2, h3, h4, h5⟩ := (k.keep hk).ls e he
    refine ⟨h1, h2, h3, h4, fun o q => q.elim (h5 o) fun q => ?_⟩
    have := (k.ls e he).1; rw [(hN _ _ q).2] at this; cases this
  an := k.an
  kn := k.kn
  kl := k.kl
  lr := k.lr.mono fun _ _ h => .inl h
  lm := fun i v e => by
    obtain ⟨y, val, h1, h2, h3⟩ := k.lm i v e
    exact ⟨y, val, h1, h2.ext (Ext.addD w N st.nx), h3⟩
theorem push_keep (h : Heap) (o : Obj) : Keep h (h.push o) := fun _ _ e => Heap.get?_push_of_some _ e
theorem fresh_none (h : Heap) : h.get? h.objs.size = none := by
  cases e : h.get? h.objs.size with
  | none => rfl
  | some o => exact absurd (Heap.lt_size e) (Nat.lt_irrefl _)
def one (a : Addr) (o : Obj) : Fact := fun b p => b = a ∧ p = o
/-- a new frozen object -/
theorem OK.pushD (k : OK G x c w st h) {h' : Heap} {a : Addr} {o : Obj} (hk : Keep h h') (ha : h'.get? a = some o) (hf : h.get? a = none) : OK G x c (w.addD (one a o)) st h' :=
  k.addD hk fun _ _ e => by obtain ⟨rfl, rfl⟩ := e; exact ⟨ha, hf⟩
def Wd.addL (w : Wd) (n : Nat) (a : Addr) (o : Obj) : Wd := { w with led := (n, a, o) :: w.led }
theorem Ext.addL (w : Wd) (nx : Nat) (a : Addr) (o : Obj) : Ext w nx (w.addL nx a o) (nx + 1) :=
  ⟨fun _ _ h => h, Nat.le_succ _, fun e h l => by
    rcases List.mem_cons.mp h with rfl | h
    · exact absurd l (Nat.lt_irrefl _)
    · exact ⟨e, h, rfl, rfl⟩⟩
/-- a new owned list -/
theorem OK.pushL (k : OK G x c w st h) {h' : Heap} {a : Addr} {vs : List Value} {n : Nat} {xs : List V} (hk : Keep h h') (ha : h'.get? a = some (LO vs n)) (hf : h.get? a = none) (hv : VFs G.fa w.D xs vs) :
    OK G x c (w.addL st.nx a (LO vs n)) ⟨st.lm, (st.nx, xs) :: st.hp, st.nx + 1⟩ h' where
  F := (k.keep hk).F
  xs := (k.keep hk).xs
  ds := (k.keep hk).ds
  xd := k.xd
  d0 := k.d0
  ls := fun e he => by
    rcases List.mem_cons.mp he with rfl | he
    · refine ⟨ha, fun q => ?_, ?_, fun o q => ?_, fun o q => ?_⟩
      · have := k.L_in; rw [← q, hf] at this; cases this
      · cases q : c.h₀.get? a with
        | none => rfl
        | some o' => have := k.F.keep a o' q; rw [hf] at this; cases this
      · have := (k.xs _ _ q).1; rw [hf] at this; cases this
      · have := (k.ds _ _ q).1; rw [hf] at this; cases this
    · exact (k.keep hk).ls e he
  an := by
    refine List.nodup_cons.mpr ⟨fun q => ?_, k.an⟩
    obtain ⟨e, he, q⟩ := List.mem_map.mp q
    have := (k.ls e he).1
    rw [show e.2.1 = a from q, hf] at this
    cases this
  kn := by
    refine List.nodup_cons.mpr ⟨fun q => ?_, k.kn⟩
    obtain ⟨e, he, q⟩ := List.mem_map.mp q
    refine absurd (k.kl e he) ?_
    rw [show e.1 = st.nx from q]
    exact Nat.lt_irrefl _
  kl := fun e he => by
    rcases List.mem_cons.mp he with rfl | he
    · exact Nat.lt_succ_self _
    · exact Nat.lt_succ_of_lt (k.kl e he)
  lr := .cons hv k.lr
  lm := fun i v e => by
    obtain ⟨y, val, h1, h2, h3⟩ := k.lm i v e
    exact ⟨y, val, h1, h2.ext (Ext.addL w st.nx a _), h3⟩

/- the owned lists -/
theorem hget_led {fa : Nat → Addr} {D : Fact} {led : List (Nat × Addr × Obj)} {hp : Hp} {n : Nat} {xs : List V} (k : LedR fa D led hp) (e : hget hp n = some xs) : ∃ a vs k, (n, a, LO vs k) ∈ led ∧ VFs fa D xs vs := by
  induction k with
  | nil => cases e
  | @cons m a vs k ys led hp v _ r =>
    have e : Bool.rec (hget hp n) (some ys) (Nat.beq m n) = some xs := e
    cases q : Nat.beq m n with
    | true =>
      rw [q] at e
      cases e
      exact ⟨a, vs, k, by rw [Nat.eq_of_beq_eq_true q]; exact .head _, v⟩
    | false =>
      rw [q] at e
      obtain ⟨a, vs, k, h1, h2⟩ := r e
      exact ⟨a, vs, k, .tail _ h1, h2⟩
def dropK (n : Nat) : List (Nat × Addr × Obj) → List (Nat × Addr × Obj)
  | [] => []
  | e :: r => if e.1 = n then r else e :: dropK n r
theorem dropK_sub (n : Nat) {led : List (Nat × Addr × Obj)} {e : Nat × Addr × Obj} (h : e ∈ dropK n led) : e ∈ led := by
  induction led with
  | nil => cases h
  | cons f r ih =>
    unfold dropK at h
    split at h
    · exact .tail _ h
    · rcases List.mem_cons.mp h with rfl | h
      · exact .head _
      · exact .tail _ (ih h)
theorem dropK_nodup {β : Type} (g : Nat × Addr × Obj → β) (n : Nat) {led : List (Nat × Addr × Obj)} (h : (led.map g).Nodup) : ((dropK n led).map g).Nodup := by
  induction led with
  | nil => exact h
  | cons f r ih =>
    unfold dropK
    have h' := List.nodup_cons.mp h
    split
    · exact h'.2
    · refine List.nodup_cons.mpr ⟨fun q => ?_, ih h'.2⟩
      obtain ⟨e, he, q⟩ := List.mem_map.mp q
      exact h'.1 (q ▸ List.mem_map_of_mem (dropK_sub n he))
theorem dropK_none (n : Nat) {led : List (Nat × Addr × Obj)} (h : (led.map (·.1)).Nodup) : ∀ e ∈ dropK n led, e.1 ≠ n := by
  induction led with
  | nil => intro e he; cases he
  | cons f r ih =>
    intro e he
    unfold dropK at he
    have h' := List.nodup_cons.mp h
    split at he
    · rename_i q
      exact fun q' => h'.1 (List.mem_map.mpr ⟨e, he, q'.trans q.symm⟩)
    · rename_i q
      rcases List.mem_cons.mp he with rfl | he
      · exact q
      · exact ih h'.2 e he
theorem hdel_led {fa : Nat → Addr} {D : Fact} (n : Nat) {led : List (Nat × Addr × Obj)} {hp : Hp} (k : LedR fa D led hp) : LedR fa D (dropK n led) (hdel hp n) := by
  induction k with
  | nil => exact .nil
  | @cons m a vs k ys led hp v r ih =>
    show LedR fa D (if m = n then led else (m, a, LO vs k) :: dropK n led) (Bool.rec ((m, ys) :: hdel hp n) hp (Nat.beq m n))
    cases q : Nat.beq m n with
    | true => rw [if_pos (Nat.eq_of_beq_eq_true q)]; exact r
    | false => rw [if_neg (Nat.ne_of_beq_eq_false q)]; exact .cons v ih
theorem led_uniq {β : Type} (g : Nat × Addr × Obj → β) {led : List (Nat × Addr × Obj)} {e f : Nat × Addr × Obj} (h : (led.map g).Nodup) (he : e ∈ led) (hf : f ∈ led) (q : g e = g f) : e = f := by
  induction led with
  | nil => cases he
  | cons a r ih =>
    have h' := List.nodup_cons.mp h
    rcases List.mem_cons.mp he with e1 | he
    · rcases List.mem_cons.mp hf with f1 | hf
      · rw [e1, f1]
      · exact absurd (List.mem_map.mpr ⟨f, hf, by rw [← q, e1]⟩) h'.1
    · rcases List.mem_cons.mp hf with f1 | hf
      · exact absurd (List.mem_map.mpr ⟨e, he, by rw [q, f1]⟩) h'.1
      · exact ih h'.2 he hf
def Wd.freeze (w : Wd) (n : Nat) (a : Addr) (o : Obj) : Wd := { w with D := fun b p => w.D b p ∨ one a o b p, led := dropK n w.led }
theorem Ext.freeze (w : Wd) (n : Nat) (a : Addr) (o : Obj) (nx : Nat) : Ext w nx (w.freeze n a o) nx := ⟨fun _ _ h => .inl h, Nat.le_refl _, fun e h _ => ⟨e, dropK_sub n h, rfl, rfl⟩⟩
theorem OK.freeze (k : OK G x c w st h) {n : Nat} {a : Addr} {o : Obj} (hm : (n, a, o) ∈ w.led) : OK G x c (w.freeze n a o) ⟨st.lm, hdel st.hp n, st.nx⟩ h where
  F := k.F
  xs := k.xs
  ds := fun b p e => e.elim (k.ds b p) fun e => by obtain ⟨rfl, rfl⟩ := e; exact ⟨(k.ls _ hm).1, (k.ls _ hm).2.1⟩
  xd := fun b p p' hx e => e.elim (k.xd b p p' hx) fun e => by obtain ⟨rfl, rfl⟩ := e; exact (k.ls _ hm).2.2.2.1 _ hx
  d0 := fun b p e => e.elim (k.d0 b p) fun e => .inr (by obtain ⟨rfl, rfl⟩ := e; exact (k.ls _ hm).2.2.1)
  ls := fun e he => by
    obtain ⟨h1, h2, h3, h4, h5⟩ := k.ls e (dropK_sub n he)
    refine ⟨h1, h2, h3, h4, fun p q => q.elim (h5 p) fun q => ?_⟩
    have q1 : e.2.1 = a := q.1
    exact dropK_none n k.kn e he (by rw [led_uniq (·.2.1) k.an (dropK_sub n he) hm q1])
  an := dropK_nodup _ n k.an
  kn := dropK_nodup _ n k.kn
  kl := fun e he => k.kl e (dropK_sub n he)
  lr := (hdel_led n k.lr).mono fun _ _ h => .inl h
  lm := fun i v e => by
    obtain ⟨y, val, h1, h2, h3⟩ := k.lm i v e
    exact ⟨y, val, h1, h2.ext (Ext.freeze w n a o st.nx), h3⟩

def setK (n : Nat) (o : Obj) : List (Nat × Addr × Obj) → List (Nat × Addr × Obj)
  | [] => []
  | e :: r => if e.1 = n then (e.1, e.2.1, o) :: r else e :: setK n o r
theorem setK_map {β : Type} (g : Nat → Addr → β) (n : Nat) (o : Obj) (led : List (Nat × Addr × Obj)) : (setK n o led).map (fun e => g e.1 e.2.1) = led.map (fun e => g e.1 e.2.1) := by
  induction led with
  | nil => rfl
  | cons f r ih =>
    unfold setK
    split
    · rfl
    · exact congrArg (_ :: ·) ih
theorem setK_mem (n : Nat) (o : Obj) {led : List (Nat × Addr × Obj)} (h : (led.map (·.1)).Nodup) : ∀ e ∈ setK n o led, (e.1 ≠ n ∧ e ∈ led) ∨ (e.1 = n ∧ e.2.2 = o ∧ ∃ p, (n, e.2.1, p) ∈ led) := by
  induction led with
  | nil => intro e he; cases he
  | cons f r ih =>
    intro e he
    have h' := List.nodup_cons.mp h
    unfold setK at he
    split at he
    · rename_i q
      rcases List.mem_cons.mp he with rfl | he
      · exact .inr ⟨q, rfl, f.2.2, by rw [← q]; exact .head _⟩
      · exact .inl ⟨fun q' => h'.1 (List.mem_map.mpr ⟨e, he, q'.trans q.symm⟩), .tail _ he⟩
    · rename_i q
      rcases List.mem_cons.mp he with rfl | he
      · exact .inl ⟨q, .head _⟩
      · rcases ih h'.2 e he with ⟨h1, h2⟩ | ⟨h1, h2, p, h3⟩
        · exact .inl ⟨h1, .tail _ h2⟩
        · exact .inr ⟨h1, h2, p, .tail _ h3⟩
theorem hset_led {fa : Nat → Addr} {D : Fact} (n : Nat) {ys : List V} {ws : List Value} {j : Nat} (hv : VFs fa D ys ws) {led : List (Nat × Addr × Obj)} {hp : Hp} (k : LedR fa D led hp) : LedR fa D (setK n (LO ws j) led) (hset hp n ys) := by
  induction k with
  | nil => exact .nil
  | @cons m a vs k zs led hp v r ih =>
    show LedR fa D (if m = n then (m, a, LO ws j) :: led else (m, a, LO vs k) :: setK n (LO ws j) led) (Bool.rec ((m, zs) :: hset hp n ys) ((m, ys) :: hp) (Nat.beq m n))
    cases q : Nat.beq m n with
    | true => rw [if_pos (Nat.eq_of_beq_eq_true q)]; exact .cons hv r
    | false => rw [if_neg (Nat.ne_of_beq_eq_false q)]; exact .cons v ih
def Wd.upd (w : Wd) (n : Nat) (o : Obj) : Wd := { w with led := setK n o w.led }
theorem Ext.upd (w : Wd) (n : Nat) (o : Obj) (nx : Nat) : Ext w nx (w.upd n o) nx := ⟨fun _ _ h => h, Nat.le_refl _, fun e h _ => by
  have : (e.1, e.2.1) ∈ (setK n o w.led).map (fun e => (e.1, e.2.1)) := List.mem_map_of_mem (f := fun e : Nat × Addr × Obj => (e.1, e.2.1)) h
  rw [setK_map (fun a b => (a, b))] at this
  obtain ⟨f, hf, q⟩ := List.mem_map.mp this
  injection q with q1 q2
  exact ⟨f, hf, q1, q2⟩⟩
/-- an owned list is changed in its place -/
theorem OK.upd (k : OK G x c w st h) {n : Nat} {a : Addr} {o : Obj} {ws : List Value} {j : Nat} {ys : List V} (hm : (n, a, o) ∈ w.led) (hs : Heap.SameBut a h h') (ha : h'.get? a = some (LO ws j)) (hv : VFs G.fa w.D ys ws) :
    OK G x c (w.upd n (LO ws j)) ⟨st.lm, hset st.hp n ys, st.nx⟩ h' := by
  obtain ⟨a1, a2, a3, a4, a5⟩ := k.ls _ hm
  have ne : ∀ b p, h.get? b = some p → b ≠ a → h'.get? b = some p := fun b p e q => (hs.2 b q).trans e
  exact {
    F := ⟨k.F.ns.sameBut hs (Ne.symm a2), fun b p e => ne b p (k.F.keep b p e) fun q => by rw [q] at e; exact absurd (a3.symm.trans e) (by simp), k.F.above⟩
    xs := fun b p e => ⟨ne b p (k.xs b p e).1 fun q => a4 p (q ▸ e), (k.xs b p e).2⟩
    ds := fun b p e => ⟨ne b p (k.ds b p e).1 fun q => a5 p (q ▸ e), (k.ds b p e).2⟩
    xd := k.xd
    d0 := k.d0
    ls := fun e he => by
      rcases setK_mem n (LO ws j) k.kn e he with ⟨h1, h2⟩ | ⟨h1, h2, p, h3⟩
      · obtain ⟨b1, b2⟩ := k.ls e h2
        exact ⟨ne _ _ b1 fun q => h1 (by rw [led_uniq (·.2.1) k.an h2 hm q]), b2⟩
      · have : e.2.1 = a := by have := led_uniq (·.1) k.kn h3 hm rfl; exact congrArg (·.2.1) this
        rw [h2, this]
        exact ⟨ha, a2, a3, a4, a5⟩
    an := by show ((setK n (LO ws j) w.led).map (fun e => e.2.1)).Nodup; rw [setK_map (fun _ b => b)]; exact k.an
    kn := by show ((setK n (LO ws j) w.led).map (fun e => e.1)).Nodup; rw [setK_map (fun a _ => a)]; exact k.kn
    kl := fun e he => by
      obtain ⟨f, hf, q, _⟩ := (Ext.upd w n (LO ws j) (e.1 + 1)).led e he (Nat.lt_succ_self _)
      rw [← q]; exact k.kl f hf
    lr := hset_led n hv k.lr
    lm := fun i v e => by
      obtain ⟨y, val, h1, h2, h3⟩ := k.lm i v e
      exact ⟨y, val, h1, h2.ext (Ext.upd w n _ st.nx), h3⟩ }

/- names -/
theorem getL_setL : ∀ {l l' : List (Option V)} {n : Nat} {v : V}, setL l n v = some l' → (∀ i, i ≠ n → getL l' i = getL l i) ∧ getL l' n = some v
  | [], _, _, _, e => nomatch e
  | o :: r, l', 0, v, e => by
    cases e
    refine ⟨fun i hi => ?_, rfl⟩
    cases i with
    | zero => exact absurd rfl hi
    | succ i => rfl
  | o :: r, l', n + 1, v, e => by
    cases q : setL r n v with
    | none =>
      have : (none : Option (List (Option V))) = some l' := by rw [← e]; show none = @Option.rec _ (fun _ => Option (List (Option V))) none _ (setL r n v); rw [q]
      cases this
    | some r' =>
      have : some (o :: r') = some l' := by rw [← e]; show some (o :: r') = @Option.rec _ (fun _ => Option (List (Option V))) none _ (setL r n v); rw [q]
      cases this
      obtain ⟨h1, h2⟩ := getL_setL q
      refine ⟨fun i hi => ?_, h2⟩
      cases i with
      | zero => rfl
      | succ i => exact h1 i fun e => hi (congrArg Nat.succ e)
def Wd.store (w : Wd) (y : Str) (val : Value) : Wd := { w with m := fun z => if z = y then some val else w.m z }
theorem Ext.store (w : Wd) (y : Str) (val : Value) (nx : Nat) : Ext w nx (w.store y val) nx := ⟨fun _ _ h => h, Nat.le_refl _, fun e h _ => ⟨e, h, rfl, rfl⟩⟩
theorem OK.store (g : Good G x d c) (k : OK G x c w st h) {i : Nat} {y : Str} {v : V} {val : Value} {l : List (Option V)} (hy : x.names[i]? = some y) (hl : c.env.kindOf y = some .local) (hv : VR G w st.nx v val) (hs : setL st.lm i v = some l)
    (hn : h'.Ns c.L (fun z => if z = y then some val else w.m z)) (hb : Heap.SameBut c.L h h') : OK G x c (w.store y val) ⟨l, st.hp, st.nx⟩ h' where
  F := k.F.set hn hb
  xs := fun a o e => ⟨(hb.2 a (k.xs a o e).2).trans (k.xs a o e).1, (k.xs a o e).2⟩
  ds := fun a o e => ⟨(hb.2 a (k.ds a o e).2).trans (k.ds a o e).1, (k.ds a o e).2⟩
  xd := k.xd
  d0 := k.d0
  ls := fun e he => ⟨(hb.2 _ (k.ls e he).2.1).trans (k.ls e he).1, (k.ls e he).2⟩
  an := k.an
  kn := k.kn
  kl := k.kl
  lr := k.lr
  lm := fun j u e => by
    obtain ⟨h1, h2⟩ := getL_setL hs
    by_cases q : j = i
    · subst q
      have : some v = some u := h2.symm.trans e
      cases this
      exact ⟨y, val, hy, hv.ext (Ext.store w y val st.nx), .inl ⟨hl, if_pos rfl⟩⟩
    · obtain ⟨z, u', b1, b2, b3⟩ := k.lm j u ((h1 j q).symm.trans e)
      refine ⟨z, u', b1, b2.ext (Ext.store w y val st.nx), b3.elim (fun b => .inl ⟨b.1, ?_⟩) .inr⟩
      have hne : z ≠ y := fun e => q ((List.getElem?_inj (List.getElem?_eq_some_iff.mp b1).1 g.nd).mp (b1.trans (by rw [hy, e])))
      exact (if_neg hne).trans b.2
end
end Mine

namespace Mine
open PySem PySem.W PySem.Calls PyProof.Rows

/-- no form that the interpreter treats apart -/
def plE : PySem.Expr → Bool
  | .Starred .. => false
  | .Slice .. => false
  | .Attribute .. => false
  | .Set .. => false
  | _ => true
def plA : PySem.Expr → Bool
  | .ListComp .. => false
  | .SetComp .. => false
  | .DictComp .. => false
  | _ => true

section
variable (G : Pg) (x : Fx) (d : Nat)
def StepE (e : PySem.Expr) (st : St) (v : V) (st' : St) : Prop :=
  ∀ (c : Cfg), Good G x d c → ∀ (w : Wd) (s : Shared) (Q : Value → Shared → Prop), OK G x c w st s.heap →
    (∀ w' h' tk val, OK G x c w' st' h' → Ext w st.nx w' st'.nx → VR G w' st'.nx v val → Q val { s with heap := h', toks := tk }) →
    wpAny (model G.prog G.w) c.A (eval e c.env) Q (fun _ _ => False) s
def StepC (e : PySem.Expr) (st : St) (b : Bool) (st' : St) : Prop :=
  ∀ (c : Cfg), Good G x d c → ∀ (w : Wd) (s : Shared) (Q : Bool → Shared → Prop), OK G x c w st s.heap →
    (∀ w' h' tk, OK G x c w' st' h' → Ext w st.nx w' st'.nx → Q b { s with heap := h', toks := tk }) →
    wpAny (model G.prog G.w) c.A (isTrue e c.env (eval e c.env)) Q (fun _ _ => False) s
def StepF (es : List PySem.Expr) (st : St) (vs : List V) (st' : St) : Prop :=
  ∀ (c : Cfg), Good G x d c → ∀ (pos : Pos) (w : Wd) (s : Shared) (Q : List Value → Shared → Prop), OK G x c w st s.heap →
    (∀ w' h' tk vals, OK G x c w' st' h' → Ext w st.nx w' st'.nx → VFs G.fa w'.D vs vals → Q vals { s with heap := h', toks := tk }) →
    wpAny (model G.prog G.w) c.A (spliced (backTo pos (starEach es c.env))) Q (fun _ _ => False) s
end
inductive VRs (G : Pg) (w : Wd) (nx : Nat) : List V → List Value → Prop
  | nil : VRs G w nx [] []
  | cons {v : V} {val : Value} {vs : List V} {vals : List Value} : VR G w nx v val → VRs G w nx vs vals → VRs G w nx (v :: vs) (val :: vals)
theorem VRs.ext {G : Pg} {w w' : Wd} {n n' : Nat} (x : Ext w n w' n') {vs : List V} {vals : List Value} (h : VRs G w n vs vals) : VRs G w' n' vs vals := by
  induction h with
  | nil => exact .nil
  | cons a _ r => exact .cons (a.ext x) r
theorem VRs.of {G : Pg} {w : Wd} {n : Nat} {vs : List V} {vals : List Value} (h : VFs G.fa w.D vs vals) : VRs G w n vs vals := VFs.ind (P := VRs G w n) .nil (fun a _ r => .cons (.of a) r) h
def StepR (G : Pg) (x : Fx) (d : Nat) (es : List PySem.Expr) (st : St) (vs : List V) (st' : St) : Prop :=
  ∀ (c : Cfg), Good G x d c → ∀ (pos : Pos) (w : Wd) (s : Shared) (Q : List Value → Shared → Prop), OK G x c w st s.heap →
    (∀ w' h' tk vals, OK G x c w' st' h' → Ext w st.nx w' st'.nx → VRs G w' st'.nx vs vals → Q vals { s with heap := h', toks := tk }) →
    wpAny (model G.prog G.w) c.A (spliced (backTo pos (starEach es c.env))) Q (fun _ _ => False) s

/-- calls are as they are told -/
structure SndCa (G : Pg) (d : Nat) (ca : Ca) : Prop where
  pure : ∀ k vs r, ca.pure k vs = some r → k < G.nf ∧ ∀ x c, Good G x d c → ∀ (m : Str → Option Value) (s : Shared) (D : Fact) (vals : List Value) (Q : Value → Shared → Prop), Fr c.h₀ c.L s.heap m → (∀ a o, D a o → s.heap.get? a = some o) → VFs G.fa D vs vals →
    (∀ h' tk val (N : Fact), Keep s.heap h' → (∀ a o, N a o → h'.get? a = some o ∧ s.heap.get? a = none) → VF G.fa (fun a o => D a o ∨ N a o) r val → Q val { s with heap := h', toks := tk }) →
    wpAny (model G.prog G.w) c.A (call (.ref (G.fa k)) vals) Q (fun _ _ => False) s
  run : ∀ k vs hp nx r, ca.run k vs hp nx = some r → k < G.nf ∧ ∀ x c, Good G x d c → ∀ lm w s vals (Q : Value → Shared → Prop), OK G x c w ⟨lm, hp, nx⟩ s.heap → VRs G w nx vs vals →
    (∀ w' h' tk val, OK G x c w' ⟨lm, r.2.1, r.2.2⟩ h' → Ext w nx w' r.2.2 → VF G.fa w'.D r.1 val → Q val { s with heap := h', toks := tk }) →
    wpAny (model G.prog G.w) c.A (call (.ref (G.fa k)) vals) Q (fun _ _ => False) s

structure SndE (G : Pg) (x : Fx) (e : PySem.Expr) (f : CE) : Prop where
  pl : plE e = true
  snd : ∀ d ca, SndCa G d ca → ∀ st k r, f ca st k = some r → ∃ v st', StepE G x d e st v st' ∧ k v st' = some r
structure SndC (G : Pg) (x : Fx) (e : PySem.Expr) (f : CC) : Prop where
  snd : ∀ d ca, SndCa G d ca → ∀ st kt kf r, f ca st kt kf = some r → ∃ b st', StepC G x d e st b st' ∧ (match b with | true => kt st' | false => kf st') = some r
structure SndF (G : Pg) (x : Fx) (es : List PySem.Expr) (fs : List CE) : Prop where
  pl : ∀ e ∈ es, plE e = true
  snd : ∀ d ca, SndCa G d ca → ∀ st k r, evF ca fs st k = some r → ∃ vs st', StepF G x d es st vs st' ∧ k vs st' = some r
structure SndR (G : Pg) (x : Fx) (es : List PySem.Expr) (fs : List CE) : Prop where
  pl : ∀ e ∈ es, plE e = true
  snd : ∀ d ca, SndCa G d ca → ∀ st k r, evR ca fs st k = some r → ∃ vs st', StepR G x d es st vs st' ∧ k vs st' = some r

/- the pieces that look at a value -/
section
variable {γ : Type}
theorem bo_some {α : Type} {o : Option α} {k : α → Option γ} {r : γ} (h : bo o k = some r) : ∃ a, o = some a ∧ k a = some r := by
  cases o with
  | none => cases h
  | some a => exact ⟨a, rfl, h⟩
theorem yn_none {b : Bool} {k : Option γ} {r : γ} (h : yn b none k = some r) : b = true ∧ k = some r := by
  cases b with
  | false => cases h
  | true => exact ⟨rfl, h⟩
theorem yn_some {b : Bool} {k : Option γ} {r : γ} (h : yn b k none = some r) : b = false ∧ k = some r := by
  cases b with
  | true => cases h
  | false => exact ⟨rfl, h⟩
theorem asI_some {v : V} {k : Int → Option γ} {r : γ} (h : asI v k = some r) : ∃ i, v = .int i ∧ k i = some r := by
  cases v <;> first | exact ⟨_, rfl, h⟩ | cases h
theorem asB_some {v : V} {k : Bool → Option γ} {r : γ} (h : asB v k = some r) : ∃ i, v = .bool i ∧ k i = some r := by
  cases v <;> first | exact ⟨_, rfl, h⟩ | cases h
theorem asF_some {v : V} {k : Nat → Option γ} {r : γ} (h : asF v k = some r) : ∃ i, v = .fn i ∧ k i = some r := by
  cases v <;> first | exact ⟨_, rfl, h⟩ | cases h
theorem asL_some {v : V} {k : List V → Option γ} {r : γ} (h : asL v k = some r) : ∃ i, v = .lst i ∧ k i = some r := by
  cases v <;> first | exact ⟨_, rfl, h⟩ | cases h
theorem asT_some {v : V} {k : List V → Option γ} {r : γ} (h : asT v k = some r) : ∃ i, v = .tup i ∧ k i = some r := by
  cases v <;> first | exact ⟨_, rfl, h⟩ | cases h
theorem asR_some {v : V} {k : Nat → Option γ} {r : γ} (h : asR v k = some r) : ∃ i, v = .ref i ∧ k i = some r := by
  cases v <;> first | exact ⟨_, rfl, h⟩ | cases h
theorem asN_some {v : V} {k : Nat → Option γ} {r : γ} (h : asN v k = some r) : ∃ n, v = .int (.ofNat n) ∧ k n = some r := by
  obtain ⟨i, rfl, h⟩ := asI_some h
  cases i with
  | ofNat n => exact ⟨n, rfl, h⟩
  | negSucc n => cases h
end
section
variable {G : Pg} {w : Wd} {nx : Nat} {val : Value}
theorem VR.int_ {i : Int} (h : VR G w nx (.int i) val) : ∃ t, val = .int i t := by cases h; exact ⟨_, rfl⟩
theorem VR.bool_ {b : Bool} (h : VR G w nx (.bool b) val) : val = .bool b := by cases h; rfl
theorem VR.fn_ {k : Nat} (h : VR G w nx (.fn k) val) : val = .ref (G.fa k) := by cases h; rfl
theorem VR.lst_ {xs : List V} (h : VR G w nx (.lst xs) val) : ∃ a vs n, val = .ref a ∧ w.D a (LO vs n) ∧ VFs G.fa w.D xs vs := by cases h; exact ⟨_, _, _, rfl, by assumption, by assumption⟩
theorem VR.tup_ {xs : List V} (h : VR G w nx (.tup xs) val) : ∃ a vs n, val = .ref a ∧ w.D a (TO vs n) ∧ VFs G.fa w.D xs vs := by cases h; exact ⟨_, _, _, rfl, by assumption, by assumption⟩
end
section
variable {G : Pg} {x : Fx} {c : Cfg} {w : Wd} {st : St} {h : Heap}
/-- a list, frozen or owned, where it lies -/
theorem OK.items (k : OK G x c w st h) {v : V} {val : Value} {xs : List V} (hv : VR G w st.nx v val) (e : items v st.hp = some xs) : ∃ a vs n, val = .ref a ∧ h.get? a = some (LO vs n) ∧ VFs G.fa w.D xs vs := by
  cases v <;> first
    | cases e
      obtain ⟨a, vs, n, h1, h2, h3⟩ := hv.lst_
      exact ⟨a, vs, n, h1, (k.ds _ _ h2).1, h3⟩
    | obtain ⟨a, vs, n, h1, h2⟩ := hget_led k.lr e
      exact ⟨a, vs, n, hv.2 _ h1 rfl, (k.ls _ h1).1, h2⟩
    | cases e
theorem VR.lt {n : Nat} {val : Value} (h : VR G w st.nx (.ref n) val) : n < st.nx := h.1
/-- a value is frozen -/
theorem OK.frz (k : OK G x c w st h) {v : V} {val : Value} {f : V → St → RR} {r : V × Hp × Nat} (hv : VR G w st.nx v val) (e : frz v st f = some r) :
    ∃ v' st' w', f v' st' = some r ∧ OK G x c w' st' h ∧ Ext w st.nx w' st'.nx ∧ VF G.fa w'.D v' val ∧ st'.nx = st.nx ∧ st'.lm = st.lm := by
  cases v with
  | ref n =>
    obtain ⟨xs, h1, h2⟩ := bo_some e
    obtain ⟨a, vs, j, h3, h4⟩ := hget_led k.lr h1
    refine ⟨_, _, w.freeze n a (LO vs j), h2, k.freeze h3, Ext.freeze .., ?_, rfl, rfl⟩
    rw [hv.2 _ h3 rfl]
    exact .lst (.inr ⟨rfl, rfl⟩) (h4.mono fun _ _ h => .inl h)
  | _ => exact ⟨_, _, w, e, k, Ext.refl .., hv, rfl, rfl⟩
end
end Mine

namespace Mine
open PySem PySem.W PySem.Calls PyProof.Rows

section
variable {G : Pg} {x : Fx} {p : Pos}

theorem SndE.int {i : Int} : SndE G x (.Constant (.int i) 0 p) (cVal (.int i)) := ⟨rfl, fun d ca hc st k r h =>
  ⟨_, _, fun c g w s Q ok q => wpAny_Constant_int (q w s.heap _ _ ok (Ext.refl ..) (VR.of (.int ..))), h⟩⟩
theorem SndE.bool {b : Bool} : SndE G x (.Constant (.bool b) 0 p) (cVal (.bool b)) := ⟨rfl, fun d ca hc st k r h =>
  ⟨_, _, fun c g w s Q ok q => Constant_bool (q w s.heap s.toks _ ok (Ext.refl ..) (VR.of (.bool ..))), h⟩⟩
/-- a name of the frame's -/
theorem load_loc {d : Nat} {c : Cfg} (g : Good G x d c) {i : Nat} {y : Str} {v : V} {st : St} {w : Wd} {s : Shared} {Q : Value → Shared → Prop} (hy : x.names[i]? = some y) (ok : OK G x c w st s.heap) (hl : getL st.lm i = some v)
    (q : ∀ val, VR G w st.nx v val → Q val s) : wpAny (model G.prog G.w) c.A (loadName c.env y) Q (fun _ _ => False) s := by
  obtain ⟨z, val, h1, h2, h3⟩ := ok.lm i v hl
  cases h1.symm.trans hy
  have hk : c.env.scope.kind = .function := by rw [g.scope]; exact g.kind
  rcases h3 with ⟨h4, h5⟩ | ⟨h4, a, o, h5, h6, h7⟩
  · exact wpAny_loadName_local hk h4 (g.locals ▸ ok.F.ns) h5 (q val h2)
  · exact wpAny_loadName_cell hk h4 h5 ⟨o, (ok.xs _ _ h6).1, h7⟩ (q val h2)
theorem nb_of {d : Nat} {c : Cfg} (g : Good G x d c) {i : Nat} {y : Str} (hy : x.names[i]? = some y) : (y == ("__debug__" : Str)) = false := g.nb y (List.mem_of_getElem? hy)
theorem SndE.loc {i : Nat} {y : Str} (hy : x.names[i]? = some y) : SndE G x (.Name y p) (cLoc i) := ⟨rfl, fun d ca hc st k r h => by
  obtain ⟨v, h1, h2⟩ := bo_some h
  exact ⟨v, st, fun c g w s Q ok q => wpAny_Name (load_loc g hy ok h1 fun val hv => q w s.heap s.toks val ok (Ext.refl ..) hv) (nb_of g hy), h2⟩⟩
theorem SndE.glob {j : Nat} {y : Str} (hy : y = G.gn j) (hx : x.scope.names.lookup y = some .globalImplicit) (hj : j < G.nf) : SndE G x (.Name y p) (cVal (.fn j)) := ⟨rfl, fun d ca hc st k r h =>
  ⟨_, _, fun c g w s Q ok q => by
    have hk : c.env.scope.kind = .function := by rw [g.scope]; exact g.kind
    refine Name_function_global hk (by show c.env.scope.names.lookup y = _; rw [g.scope]; exact hx) (loadGlobal_global (by rw [g.globals]; exact g.T.g.keeps ok.F.keep) (mg_of g.K g.T.g (by rw [hy]; exact g.pg.ns j hj)) ?_) (by rw [hy]; exact g.pg.dbg j hj)
    exact q w s.heap s.toks _ ok (Ext.refl ..) (VR.of (.fn j)), h⟩⟩
theorem SndE.neg {e : PySem.Expr} {f : CE} (a : SndE G x e f) : SndE G x (.UnaryOp .USub e p) (cNeg f) := ⟨rfl, fun d ca hc st k r h => by
  obtain ⟨v, st1, s1, h_1⟩ := a.snd d ca hc st _ r h
  obtain ⟨i, rfl, h_2⟩ := asI_some h_1
  refine ⟨_, _, fun c g w s Q ok q => UnaryOp_ (s1 c g w s _ ok fun w' h' tk val ok' ex hv => ?_), h_2⟩
  obtain ⟨t, rfl⟩ := hv.int_
  exact PyProof.Rows.neg_int (q w' h' _ _ ok' ex (VR.of (.int ..)))⟩
theorem SndE.not {e : PySem.Expr} {f : CE} (a : SndE G x e f) : SndE G x (.UnaryOp .Not e p) (cNot f) := ⟨rfl, fun d ca hc st k r h => by
  obtain ⟨v, st1, s1, h_1⟩ := a.snd d ca hc st _ r h
  obtain ⟨b, rfl, h_2⟩ := asB_some h_1
  refine ⟨.bool (!b), st1, fun c g w s Q ok q => UnaryOp_ (s1 c g w s _ ok fun w' h' tk val ok' ex hv => ?_), by cases b <;> exact h_2⟩
  cases hv.bool_
  exact not_of (wpAny_truthy_bool (q w' h' tk _ ok' ex (VR.of (.bool _))))⟩

/-- an operation on ints -/
def OpOK (op : Operator) (f : Int → Int → Option Int) : Prop := ∀ i j z, f i j = some z → ∀ (prog : Program) (w : World) (A : Around) (s : Shared) (t u : Tok) (Q : Value → Shared → Prop),
  (∀ tk, Q (.int z tk) { s with toks := s.toks + 1 }) → wpAny (model prog w) A (binaryOp op (.int i t) (.int j u)) Q (fun _ _ => False) s ∧ wpAny (model prog w) A (inplaceOp op (.int i t) (.int j u)) Q (fun _ _ => False) s
theorem SndE.bin {op : Operator} {fo : Int → Int → Option Int} {l r : PySem.Expr} {f₁ f₂ : CE} (o : OpOK op fo) (a : SndE G x l f₁) (b : SndE G x r f₂) : SndE G x (.BinOp l op r p) (cBin fo f₁ f₂) := ⟨rfl, fun d ca hc st k r h => by
  obtain ⟨v, st1, s1, h_1⟩ := a.snd d ca hc st _ r h
  obtain ⟨u, st2, s2, h_2⟩ := b.snd d ca hc st1 _ r h_1
  obtain ⟨i, rfl, h_3⟩ := asI_some h_2
  obtain ⟨j, rfl, h_4⟩ := asI_some h_3
  obtain ⟨z, hz, h_5⟩ := bo_some h_4
  refine ⟨_, _, fun c g w s Q ok q => wpAny_BinOp (s1 c g w s _ ok fun w1 h1 t1 v1 ok1 ex1 hv1 => s2 c g w1 _ _ ok1 fun w2 h2 t2 v2 ok2 ex2 hv2 => ?_), h_5⟩
  obtain ⟨t, rfl⟩ := hv1.int_
  obtain ⟨u, rfl⟩ := hv2.int_
  exact (o i j z hz _ _ _ _ t u _ fun tk => q w2 h2 _ _ ok2 (ex1.trans ex2) (VR.of (.int ..))).1⟩

/-- a comparison -/
def CmOK (op : CmpOp) (f : V → V → RR → RR → RR) : Prop := ∀ a b t e r, f a b t e = some r → ∃ q : Bool, (match q with | true => t | false => e) = some r ∧
  ∀ (G : Pg) (w : Wd) (nx : Nat) (va vb : Value) (A : Around) (s : Shared) (Q : Value → Shared → Prop), VR G w nx a va → VR G w nx b vb → (∀ a o, w.D a o → s.heap.get? a = some o) → A.units + 64 < cLine →
    Q (.bool q) s → wpAny (model G.prog G.w) A (compareOp op va vb) Q (fun _ _ => False) s
theorem notMarks {op : CmpOp} {e : PySem.Expr} (h : plE e = true) : behindInMarks op e = false := by cases e <;> first | rfl | cases h
theorem SndE.cmp {op : CmpOp} {fo : V → V → RR → RR → RR} {l r : PySem.Expr} {f₁ f₂ : CE} (o : CmOK op fo) (a : SndE G x l f₁) (b : SndE G x r f₂) : SndE G x (.Compare l [op] [r] p) (cCmp fo f₁ f₂) := ⟨rfl, fun d ca hc st k r h => by
  obtain ⟨v, st1, s1, h_1⟩ := a.snd d ca hc st _ r h
  obtain ⟨u, st2, s2, h_2⟩ := b.snd d ca hc st1 _ r h_1
  obtain ⟨q, h_3, hq⟩ := o _ _ _ _ _ h_2
  refine ⟨.bool q, st2, fun c g w s Q ok k => wpAny_Compare1 (s1 c g w s _ ok fun w1 h1 t1 v1 ok1 ex1 hv1 => s2 c g w1 _ _ ok1 fun w2 h2 t2 v2 ok2 ex2 hv2 => ?_) (notMarks b.pl), by cases q <;> exact h_3⟩
  exact hq G w2 st2.nx v1 v2 _ _ _ (hv1.ext ex2) hv2 (fun a o e => (ok2.ds a o e).1) (by have := g.units; omega) (k w2 h2 t2 _ ok2 (ex1.trans ex2) (VR.of (.bool q)))⟩
theorem SndC.cmp {op : CmpOp} {fo : V → V → RR → RR → RR} {l r : PySem.Expr} {f₁ f₂ : CE} (o : CmOK op fo) (a : SndE G x l f₁) (b : SndE G x r f₂) : SndC G x (.Compare l [op] [r] p) (tCmp fo f₁ f₂) := ⟨fun d ca hc st kt kf r h => by
  obtain ⟨v, st1, s1, h_1⟩ := a.snd d ca hc st _ r h
  obtain ⟨u, st2, s2, h_2⟩ := b.snd d ca hc st1 _ r h_1
  obtain ⟨q, h_3, hq⟩ := o _ _ _ _ _ h_2
  refine ⟨q, st2, fun c g w s Q ok k => wpAny_isTrue_Compare1 (s1 c g w s _ ok fun w1 h1 t1 v1 ok1 ex1 hv1 => s2 c g w1 _ _ ok1 fun w2 h2 t2 v2 ok2 ex2 hv2 => ?_) (notMarks b.pl), by cases q <;> exact h_3⟩
  exact hq G w2 st2.nx v1 v2 _ _ _ (hv1.ext ex2) hv2 (fun a o e => (ok2.ds a o e).1) (by have := g.units; omega) (wpAny_truthy_bool (k w2 h2 t2 ok2 (ex1.trans ex2)))⟩
theorem SndC.loc {i : Nat} {y : Str} (hy : x.names[i]? = some y) : SndC G x (.Name y p) (tLoc i) := ⟨fun d ca hc st kt kf r h => by
  obtain ⟨v, h1, h2⟩ := bo_some h
  obtain ⟨b, rfl, h2⟩ := asB_some h2
  refine ⟨b, st, fun c g w s Q ok q => wpAny_isTrue_value (wpAny_Name (load_loc g hy ok h1 fun val hv => ?_) (nb_of g hy)), by cases b <;> exact h2⟩
  cases hv.bool_
  exact wpAny_truthy_bool (q w s.heap s.toks ok (Ext.refl ..))⟩
theorem SndE.and {l r : PySem.Expr} {f₁ f₂ : CE} (a : SndE G x l f₁) (b : SndE G x r f₂) : SndE G x (.BoolOp .And [l, r] p) (cAnd f₁ f₂) := ⟨rfl, fun d ca hc st k r h => by
  obtain ⟨v, st1, s1, h_1⟩ := a.snd d ca hc st _ r h
  obtain ⟨q, rfl, h_2⟩ := asB_some h_1
  cases q with
  | false =>
    refine ⟨.bool false, st1, fun c g w s Q ok k => BoolOp_and (s1 c g w s _ ok fun w1 h1 t1 v1 ok1 ex1 hv1 => ?_), h_2⟩
    cases hv1.bool_
    exact wpAny_truthy_bool (k w1 h1 t1 _ ok1 ex1 (VR.of (.bool _)))
  | true =>
    obtain ⟨u, st2, s2, h_3⟩ := b.snd d ca hc st1 _ r h_2
    refine ⟨u, st2, fun c g w s Q ok k => BoolOp_and (s1 c g w s _ ok fun w1 h1 t1 v1 ok1 ex1 hv1 => ?_), h_3⟩
    cases hv1.bool_
    refine wpAny_truthy_bool (BoolOp_one (s2 c g w1 _ _ ok1 fun w2 h2 t2 v2 ok2 ex2 hv2 => k w2 h2 t2 _ ok2 (ex1.trans ex2) hv2))⟩
theorem SndC.and {l r : PySem.Expr} {f₁ f₂ : CC} (a : SndC G x l f₁) (b : SndC G x r f₂) : SndC G x (.BoolOp .And [l, r] p) (tAnd f₁ f₂) := ⟨fun d ca hc st kt kf r h => by
  obtain ⟨q, st1, s1, h_1⟩ := a.snd d ca hc st _ _ r h
  cases q with
  | false => exact ⟨false, st1, fun c g w s Q ok k => isTrue_and (s1 c g w s _ ok fun w1 h1 t1 ok1 ex1 => k w1 h1 t1 ok1 ex1), h_1⟩
  | true =>
    obtain ⟨u, st2, s2, h_2⟩ := b.snd d ca hc st1 _ _ r h_1
    exact ⟨u, st2, fun c g w s Q ok k => isTrue_and (s1 c g w s _ ok fun w1 h1 t1 ok1 ex1 => isTrue_and (s2 c g w1 _ _ ok1 fun w2 h2 t2 ok2 ex2 => by cases u <;> first | exact k w2 h2 t2 ok2 (ex1.trans ex2) | exact isTrue_and_nil (k w2 h2 t2 ok2 (ex1.trans ex2)))), h_2⟩⟩
theorem SndE.ife {t l r : PySem.Expr} {ft : CC} {f₁ f₂ : CE} (o : SndC G x t ft) (a : SndE G x l f₁) (b : SndE G x r f₂) : SndE G x (.IfExp t l r p) (cIfe ft f₁ f₂) := ⟨rfl, fun d ca hc st k r h => by
  obtain ⟨q, st1, s1, h_1⟩ := o.snd d ca hc st _ _ r h
  cases q with
  | true =>
    obtain ⟨u, st2, s2, h_2⟩ := a.snd d ca hc st1 _ r h_1
    exact ⟨u, st2, fun c g w s Q ok k => IfExp_ (s1 c g w s _ ok fun w1 h1 t1 ok1 ex1 => s2 c g w1 _ _ ok1 fun w2 h2 t2 v2 ok2 ex2 hv2 => k w2 h2 t2 _ ok2 (ex1.trans ex2) hv2), h_2⟩
  | false =>
    obtain ⟨u, st2, s2, h_3⟩ := b.snd d ca hc st1 _ r h_1
    exact ⟨u, st2, fun c g w s Q ok k => IfExp_ (s1 c g w s _ ok fun w1 h1 t1 ok1 ex1 => s2 c g w1 _ _ ok1 fun w2 h2 t2 v2 ok2 ex2 hv2 => k w2 h2 t2 _ ok2 (ex1.trans ex2) hv2), h_3⟩⟩
end
end Mine

namespace Mine
open PySem PySem.W PySem.Calls PyProof.Rows

section
variable {prog : Program} {w : World} {A : Around} {E : Value → Shared → Prop} {s : Shared} {Q : Value → Shared → Prop}
theorem catL {l b : Addr} {vs ws : List Value} {n k : Nat} (hl : s.heap.get? l = some (LO vs n)) (hb : s.heap.get? b = some (LO ws k)) (hz : vs.length + ws.length ≤ sizeLine)
    (h : Q (.ref s.heap.objs.size) { s with heap := s.heap.push (LO (vs ++ ws) 0) }) : wpAny (model prog w) A (binaryOp .Add (.ref l) (.ref b)) Q E s := by
  have e : vs.toArray ++ ws.toArray = (vs ++ ws).toArray := by simp
  have h' : Q (.ref s.heap.objs.size) { s with heap := s.heap.push { cls := .type "list", data := .seq (vs.toArray ++ ws.toArray) } } := by rw [e]; exact h
  exact concat_meets ⟨_, hl, rfl⟩ ⟨_, hb, rfl⟩ noFill_list_add seq_list_add PySem.F.slot_list_add PySem.F.entry_list_add (PySem.F.args_list_add_2 _ _) (list_addW l b vs.toArray ws.toArray n k _ _ _ _ (by simpa using hz)) ⟨hl, hb, h'⟩
theorem fold_rep (xs : List Value) : ∀ n : Nat, ∀ acc : Array Value, List.foldl (fun x y => x ++ y) acc (List.replicate n xs.toArray) = acc ++ (List.flatten (List.replicate n xs)).toArray
  | 0, acc => by simp
  | n + 1, acc => by
    rw [List.replicate_succ, List.foldl_cons, fold_rep xs n, List.replicate_succ, List.flatten_cons]
    simp
theorem mulL {l : Addr} {vs : List Value} {n k : Nat} {u : Tok} (hl : s.heap.get? l = some (LO vs n)) (hk : k ≤ 4096) (hz : vs.length ≤ 4096)
    (h : Q (.ref s.heap.objs.size) { s with heap := s.heap.push (LO (List.flatten (List.replicate k vs)) 0) }) : wpAny (model prog w) A (binaryOp .Mult (.ref l) (.int (Int.ofNat k) u)) Q E s := by
  have hm : vs.toArray.size * (Int.ofNat k).toNat ≤ 2 ^ 24 := by
    rw [List.size_toArray]
    exact Nat.le_trans (Nat.mul_le_mul hz (show (Int.ofNat k).toNat ≤ 4096 from hk)) (Nat.le_of_ble_eq_true (by decide +kernel))
  have e : List.foldl (fun x1 x2 => x1 ++ x2) #[] (List.replicate (if vs.toArray.isEmpty = true then 0 else (Int.ofNat k).toNat) vs.toArray) = (List.flatten (List.replicate k vs)).toArray := by
    rw [fold_rep]
    cases vs with
    | nil => simp
    | cons v r => simp
  have h' : Q (.ref s.heap.objs.size) { s with heap := s.heap.push { cls := .type "list", data := .seq (List.foldl (fun x1 x2 => x1 ++ x2) #[] (List.replicate (if vs.toArray.isEmpty = true then 0 else (Int.ofNat k).toNat) vs.toArray)) } } := by rw [e]; exact h
  refine' wpAny_binaryOp_repeat_ref (T := "list") (U := "int") (by decide) ⟨_, hl, rfl⟩ (fun s' => typeIs_int s' _ u) noFill_list_mul PySem.F.fills_int_mul PySem.F.slot_int_rmul repeat_list PySem.F.slot_int_index.lookup
    (call_meets PySem.F.slot_int_rmul (typeIs_int s _ u) PySem.F.entry_int_rmul (PySem.F.args_int_rmul_2 _ _) (int___rmul___int_list _ u l vs.toArray n)
      ⟨hl, rfl, ⟨_, hl, rfl⟩, call_meets PySem.F.slot_list_mul ⟨_, hl, rfl⟩ PySem.F.entry_list_mul (PySem.F.args_list_mul_2 _ _)
        (AutoListH.list___mul___list_int_3 l vs.toArray n _ u ?k1 ?k2 ?k3) ⟨hl, h'⟩⟩)
  · have h1 : Builtin.List.listFitsIndex (Int.ofNat k) = true := by
      unfold Builtin.List.listFitsIndex
      rw [Bool.and_eq_true_iff]
      exact ⟨decide_eq_true (by have := Int.natCast_nonneg k; show -(2 ^ 63 : Int) ≤ (k : Int); omega), decide_eq_true (by show (k : Int) < 2 ^ 63; omega)⟩
    rw [h1]; decide
  · exact Nat.not_lt.mpr (Nat.le_trans hm (Nat.le_of_ble_eq_true (by decide +kernel)))
  · unfold Builtin.List.listTooLong
    rw [decide_eq_true_eq]
    exact Nat.not_lt.mpr hm
end
theorem VFs.rep {fa : Nat → Addr} {D : Fact} {xs : List V} {vs : List Value} (h : VFs fa D xs vs) : ∀ n : Nat, VFs fa D (repL xs n) (List.flatten (List.replicate n vs))
  | 0 => .nil
  | n + 1 => by
    rw [List.replicate_succ, List.flatten_cons]
    exact h.app (h.rep n)

theorem frz_some {v : V} {st : St} {f : V → St → RR} {r : V × Hp × Nat} (e : frz v st f = some r) : ∃ v' st', f v' st' = some r ∧
    ∀ (G : Pg) (x : Fx) (c : Cfg) (w : Wd) (h : Heap) (val : Value), OK G x c w st h → VR G w st.nx v val → ∃ w', OK G x c w' st' h ∧ Ext w st.nx w' st'.nx ∧ VF G.fa w'.D v' val := by
  cases v with
  | ref n =>
    obtain ⟨xs, h1, h2⟩ := bo_some e
    refine ⟨_, _, h2, fun G x c w h val k hv => ?_⟩
    obtain ⟨a, vs, j, h3, h4⟩ := hget_led k.lr h1
    refine ⟨w.freeze n a (LO vs j), k.freeze h3, Ext.freeze .., ?_⟩
    rw [hv.2 _ h3 rfl]
    exact .lst (.inr ⟨rfl, rfl⟩) (h4.mono fun _ _ h => .inl h)
  | _ => exact ⟨_, _, e, fun G x c w h val k hv => ⟨w, k, Ext.refl .., hv⟩⟩
/-- a new list -/
theorem new_some {mu : Bool} {xs : List V} {st : St} {f : V → St → RR} {r : V × Hp × Nat} (e : new mu xs st f = some r) : ∃ v' st', f v' st' = some r ∧
    ∀ (G : Pg) (x : Fx) (c : Cfg) (w : Wd) (h h' : Heap) (a : Addr) (vs : List Value) (n : Nat), OK G x c w st h → Keep h h' → h'.get? a = some (LO vs n) → h.get? a = none → VFs G.fa w.D xs vs →
      ∃ w', OK G x c w' st' h' ∧ Ext w st.nx w' st'.nx ∧ VR G w' st'.nx v' (.ref a) := by
  cases mu with
  | false =>
    refine ⟨_, _, e, fun G x c w h h' a vs n k hk ha hf hv => ⟨w.addD (one a (LO vs n)), k.pushD hk ha hf, Ext.addD .., VR.of (.lst (.inr ⟨rfl, rfl⟩) (hv.mono fun _ _ h => .inl h))⟩⟩
  | true =>
    refine ⟨_, _, e, fun G x c w h h' a vs n k hk ha hf hv => ⟨w.addL st.nx a (LO vs n), k.pushL hk ha hf hv, Ext.addL .., Nat.lt_succ_self _, fun q hq e => ?_⟩⟩
    rcases List.mem_cons.mp hq with rfl | hq
    · rfl
    · exact absurd (k.kl q hq) (by rw [show q.1 = st.nx from e]; exact Nat.lt_irrefl _)
theorem shortL_le {fa : Nat → Addr} {D : Fact} {xs : List V} {vs : List Value} (h : VFs fa D xs vs) (e : shortL xs = true) : vs.length ≤ 4096 := by rw [← h.length]; exact Nat.le_of_ble_eq_true e

section
variable {G : Pg} {x : Fx} {p : Pos}
theorem star_plain {e : PySem.Expr} {es : List PySem.Expr} {env : Env} (h : plE e = true) : starEach (e :: es) env = (false, eval e env) :: starEach es env := by cases e <;> first | rfl | cases h
theorem SndF.nil : SndF G x [] [] := ⟨fun _ h => (nomatch h), fun d ca hc st k r h => ⟨[], st, fun c g pos w s Q ok q => args_nil (q w s.heap s.toks _ ok (Ext.refl ..) .nil), h⟩⟩
theorem SndF.cons {e : PySem.Expr} {es : List PySem.Expr} {f : CE} {fs : List CE} (a : SndE G x e f) (b : SndF G x es fs) : SndF G x (e :: es) (f :: fs) := ⟨fun i hi => (List.mem_cons.mp hi).elim (fun e => e ▸ a.pl) (b.pl i), fun d ca hc st k r h => by
  have h0 : f ca st (fun v st => frz v st fun v st => evF ca fs st fun vs st => k (v :: vs) st) = some r := h
  obtain ⟨v, st1, s1, h1⟩ := a.snd d ca hc st _ r h0
  obtain ⟨v', st2, h2, fz⟩ := frz_some h1
  obtain ⟨vs, st3, s3, h3⟩ := b.snd d ca hc st2 _ r h2
  refine ⟨v' :: vs, st3, fun c g pos w s Q ok q => args_cons (s1 c g w s _ ok fun w1 h1 t1 v1 ok1 ex1 hv1 => ?_) (star_plain a.pl), h3⟩
  obtain ⟨w2, ok2, ex2, hv2⟩ := fz G x c w1 h1 v1 ok1 hv1
  exact s3 c g pos w2 _ _ ok2 fun w3 h3 t3 vals ok3 ex3 hv3 => q w3 h3 t3 _ ok3 ((ex1.trans ex2).trans ex3) (.cons (hv2.mono ex3.D) hv3)⟩
theorem SndR.nil : SndR G x [] [] := ⟨fun _ h => (nomatch h), fun d ca hc st k r h => ⟨[], st, fun c g pos w s Q ok q => args_nil (q w s.heap s.toks _ ok (Ext.refl ..) .nil), h⟩⟩
theorem SndR.cons {e : PySem.Expr} {es : List PySem.Expr} {f : CE} {fs : List CE} (a : SndE G x e f) (b : SndR G x es fs) : SndR G x (e :: es) (f :: fs) := ⟨fun i hi => (List.mem_cons.mp hi).elim (fun e => e ▸ a.pl) (b.pl i), fun d ca hc st k r h => by
  have h0 : f ca st (fun v st => evR ca fs st fun vs st => k (v :: vs) st) = some r := h
  obtain ⟨v, st1, s1, h1⟩ := a.snd d ca hc st _ r h0
  obtain ⟨vs, st3, s3, h3⟩ := b.snd d ca hc st1 _ r h1
  refine ⟨v :: vs, st3, fun c g pos w s Q ok q => args_cons (s1 c g w s _ ok fun w1 h1 t1 v1 ok1 ex1 hv1 => ?_) (star_plain a.pl), h3⟩
  exact s3 c g pos w1 _ _ ok1 fun w3 h3 t3 vals ok3 ex3 hv3 => q w3 h3 t3 _ ok3 (ex1.trans ex3) (.cons (hv1.ext ex3) hv3)⟩

theorem SndE.tup {es : List PySem.Expr} {fs : List CE} (a : SndF G x es fs) : SndE G x (.Tuple es 0 p) (cTup fs) := ⟨rfl, fun d ca hc st k r h => by
  have h0 : evF ca fs st (fun vs st => yn (shortL vs) none (k (.tup vs) st)) = some r := h
  obtain ⟨vs, st1, s1, h1⟩ := a.snd d ca hc st _ r h0
  obtain ⟨e1, h2⟩ := yn_none h1
  refine ⟨_, _, fun c g w s Q ok q => Tuple_ (s1 c g p w s _ ok fun w1 h1 t1 vals ok1 ex1 hv1 => ?_), h2⟩
  have hz := shortL_le hv1 e1
  refine wpAny_newObj_type ?_ (by show vals.toArray.size ≤ sizeLine; rw [List.size_toArray]; exact Nat.le_trans hz (by decide))
  exact q (w1.addD (one _ (TO vals 0))) _ t1 _ (ok1.pushD (push_keep _ _) (Heap.get?_push_size _ rfl) (fresh_none _)) (ex1.trans (Ext.addD ..)) (VR.of (.tup (.inr ⟨rfl, rfl⟩) (hv1.mono fun _ _ h => .inl h)))⟩
theorem SndE.lst {mu : Bool} {es : List PySem.Expr} {fs : List CE} (a : SndF G x es fs) : SndE G x (.List es p) (cLst mu fs) := ⟨rfl, fun d ca hc st k r h => by
  have h0 : evF ca fs st (fun vs st => yn (shortL vs) none (new mu vs st k)) = some r := h
  obtain ⟨vs, st1, s1, h1⟩ := a.snd d ca hc st _ r h0
  obtain ⟨e1, h2⟩ := yn_none h1
  obtain ⟨v', st2, h3, nw⟩ := new_some h2
  refine ⟨_, _, fun c g w s Q ok q => List_ (s1 c g p w s _ ok fun w1 h1 t1 vals ok1 ex1 hv1 => ?_), h3⟩
  have hz := shortL_le hv1 e1
  refine wpAny_newObj_type ?_ (by show vals.toArray.size ≤ sizeLine; rw [List.size_toArray]; exact Nat.le_trans hz (by decide))
  obtain ⟨w2, ok2, ex2, hv2⟩ := nw G x c w1 h1 _ _ vals 0 ok1 (push_keep h1 (LO vals 0)) (Heap.get?_push_size _ rfl) (fresh_none _) hv1
  exact q w2 _ t1 _ ok2 (ex1.trans ex2) hv2⟩
theorem SndE.cat {mu : Bool} {l r : PySem.Expr} {f₁ f₂ : CE} (a : SndE G x l f₁) (b : SndE G x r f₂) : SndE G x (.BinOp l .Add r p) (cCat mu f₁ f₂) := ⟨rfl, fun d ca hc st k r h => by
  obtain ⟨v, st1, s1, h1⟩ := a.snd d ca hc st _ r h
  obtain ⟨u, st2, s2, h2⟩ := b.snd d ca hc st1 _ r h1
  obtain ⟨xs, ex, h3⟩ := bo_some h2
  obtain ⟨ys, ey, h4⟩ := bo_some h3
  obtain ⟨e1, h5⟩ := yn_none h4
  obtain ⟨e2, h6⟩ := yn_none h5
  obtain ⟨v', st3, h7, nw⟩ := new_some h6
  refine ⟨_, _, fun c g w s Q ok q => wpAny_BinOp (s1 c g w s _ ok fun w1 h1 t1 v1 ok1 ex1 hv1 => s2 c g w1 _ _ ok1 fun w2 h2 t2 v2 ok2 ex2 hv2 => ?_), h7⟩
  obtain ⟨a1, vs, n1, rfl, g1, i1⟩ := ok2.items (hv1.ext ex2) ex
  obtain ⟨a2, ws, n2, rfl, g2, i2⟩ := ok2.items hv2 ey
  have z1 := shortL_le i1 e1
  have z2 := shortL_le i2 e2
  refine catL g1 g2 (Nat.le_trans (Nat.add_le_add z1 z2) (by decide)) ?_
  obtain ⟨w3, ok3, ex3, hv3⟩ := nw G x c w2 h2 _ _ (vs ++ ws) 0 ok2 (push_keep h2 (LO (vs ++ ws) 0)) (Heap.get?_push_size _ rfl) (fresh_none _) (i1.app i2)
  exact q w3 _ t2 _ ok3 ((ex1.trans ex2).trans ex3) hv3⟩
theorem SndE.rep {mu : Bool} {l r : PySem.Expr} {f₁ f₂ : CE} (a : SndE G x l f₁) (b : SndE G x r f₂) : SndE G x (.BinOp l .Mult r p) (cRep mu f₁ f₂) := ⟨rfl, fun d ca hc st k r h => by
  obtain ⟨v, st1, s1, h1⟩ := a.snd d ca hc st _ r h
  obtain ⟨u, st2, s2, h2⟩ := b.snd d ca hc st1 _ r h1
  obtain ⟨xs, ex, h3⟩ := bo_some h2
  obtain ⟨n, rfl, h4⟩ := asN_some h3
  obtain ⟨e1, h5⟩ := yn_none h4
  obtain ⟨e2, h6⟩ := yn_none h5
  obtain ⟨v', st3, h7, nw⟩ := new_some h6
  refine ⟨_, _, fun c g w s Q ok q => wpAny_BinOp (s1 c g w s _ ok fun w1 h1 t1 v1 ok1 ex1 hv1 => s2 c g w1 _ _ ok1 fun w2 h2 t2 v2 ok2 ex2 hv2 => ?_), h7⟩
  obtain ⟨a1, vs, n1, rfl, g1, i1⟩ := ok2.items (hv1.ext ex2) ex
  obtain ⟨t, rfl⟩ := hv2.int_
  refine mulL g1 (Nat.le_of_ble_eq_true e2) (shortL_le i1 e1) ?_
  obtain ⟨w3, ok3, ex3, hv3⟩ := nw G x c w2 h2 _ _ _ 0 ok2 (push_keep h2 (LO (List.flatten (List.replicate n vs)) 0)) (Heap.get?_push_size _ rfl) (fresh_none _) (i1.rep n)
  exact q w3 _ t2 _ ok3 ((ex1.trans ex2).trans ex3) hv3⟩
end
end Mine

namespace Mine
open PySem PySem.W PySem.Calls PyProof.Rows

/- ints: what the functions are -/
theorem iadd_eq (a b : Int) : iadd a b = a + b := by cases a <;> cases b <;> rfl
theorem isub_eq (a b : Int) : isub a b = a - b := by
  cases a with
  | negSucc m => rfl
  | ofNat m => cases b with
    | negSucc n => rfl
    | ofNat n =>
      show (Bool.rec _ _ (Nat.ble n m) : Int) = _
      cases h : Nat.ble n m with
      | false => rfl
      | true =>
        have := Nat.le_of_ble_eq_true h
        show Int.ofNat (m - n) = (m : Int) - (n : Int)
        show ((m - n : Nat) : Int) = (m : Int) - (n : Int)
        omega
theorem ieq_eq (a b : Int) : ieq a b = (a == b) := by
  cases a with
  | ofNat m => cases b with
    | ofNat n =>
      show Nat.beq m n = _
      cases h : Nat.beq m n with
      | true => rw [Nat.eq_of_beq_eq_true h]; simp
      | false => have := Nat.ne_of_beq_eq_false h; symm; rw [beq_eq_false_iff_ne]; intro e; exact this (Int.ofNat.inj e)
    | negSucc n => show false = _; symm; rw [beq_eq_false_iff_ne]; intro e; cases e
  | negSucc m => cases b with
    | ofNat n => show false = _; symm; rw [beq_eq_false_iff_ne]; intro e; cases e
    | negSucc n =>
      show Nat.beq m n = _
      cases h : Nat.beq m n with
      | true => rw [Nat.eq_of_beq_eq_true h]; simp
      | false => have := Nat.ne_of_beq_eq_false h; symm; rw [beq_eq_false_iff_ne]; intro e; exact this (Int.negSucc.inj e)
theorem ble_eq (m n : Nat) : Nat.ble m n = decide (m ≤ n) := by
  cases h : Nat.ble m n with
  | true => exact (decide_eq_true (Nat.le_of_ble_eq_true h)).symm
  | false => exact (decide_eq_false fun q => by rw [Nat.ble_eq_true_of_le q] at h; cases h).symm
theorem ile_eq (a b : Int) : ile a b = decide (a ≤ b) := by
  cases a <;> cases b
  · rename_i m n; show Nat.ble m n = _; rw [ble_eq]; congr 1; simp
  · rename_i m n; show false = decide ((m : Int) ≤ Int.negSucc n); symm; exact decide_eq_false (by omega)
  · rename_i m n; show true = decide (Int.negSucc m ≤ (n : Int)); symm; exact decide_eq_true (by omega)
  · rename_i m n; show Nat.ble n m = _; rw [ble_eq]; apply decide_eq_decide.mpr; omega
theorem ilt_eq (a b : Int) : ilt a b = decide (a < b) := by
  cases a <;> cases b
  · rename_i m n; show Nat.ble (m + 1) n = _; rw [ble_eq]; apply decide_eq_decide.mpr; simp; omega
  · rename_i m n; show false = decide ((m : Int) < Int.negSucc n); symm; exact decide_eq_false (by omega)
  · rename_i m n; show true = decide (Int.negSucc m < (n : Int)); symm; exact decide_eq_true (by omega)
  · rename_i m n; show Nat.ble (n + 1) m = _; rw [ble_eq]; apply decide_eq_decide.mpr; omega
theorem small_lt {n : Nat} (h : small n = true) : n < 2 ^ 60 := Nat.lt_succ_of_le (Nat.le_of_ble_eq_true h)

theorem OpOK.fAdd : OpOK .Add fAdd := fun i j z h prog w A s t u Q q => by
  cases h
  rw [iadd_eq] at q
  exact ⟨PyProof.Rows.add_int (q _), PyProof.Rows.iadd_int (q _)⟩
theorem OpOK.fSub : OpOK .Sub fSub := fun i j z h prog w A s t u Q q => by
  cases h
  rw [isub_eq] at q
  exact ⟨PyProof.Rows.sub_int (q _), PyProof.Rows.isub_int (q _)⟩
theorem OpOK.fMul : OpOK .Mult fMul := fun i j z h prog w A s t u Q q => by
  cases i <;> cases j <;> first | cases h | skip
  rename_i m n
  obtain ⟨h1, h2⟩ := yn_none h
  cases h2
  have hm : IntMulOk (Int.ofNat m) (Int.ofNat n) := IntMulOk.of_left (intBits_le_64 (by have := Int.natCast_nonneg m; show -(2 ^ 64) < (m : Int); omega) (by have := small_lt h1; show (m : Int) < 2 ^ 64; omega))
  exact ⟨PyProof.Rows.mul_int (q _) hm, PyProof.Rows.imul_int (q _) hm⟩
theorem OpOK.fDiv : OpOK .FloorDiv fDiv := fun i j z h prog w A s t u Q q => by
  cases i <;> cases j <;> first | cases h | skip
  rename_i m n
  cases n with
  | zero => cases h
  | succ n =>
    obtain ⟨h1, h2⟩ := yn_none h
    cases h2
    have hn : (Int.ofNat (n + 1)) ≠ 0 := by intro e; cases e
    have hp : Builtin.divisionGoesByPylong (Int.ofNat m) (Int.ofNat (n + 1)) = false := PyProof.noPylong_of_log2 (by
      show (n + 1).log2 < 9000
      have := small_lt h1
      refine Nat.lt_of_lt_of_le ((Nat.log2_lt (by omega)).mpr (Nat.lt_of_le_of_lt this (by decide) : n + 1 < 2 ^ 61)) (by decide))
    have e : Int.fdiv (Int.ofNat m) (Int.ofNat (n + 1)) = Int.ofNat (m / (n + 1)) := Int.ofNat_fdiv m (n + 1) |>.symm
    rw [show Int.ofNat (Nat.div m (n + 1)) = Int.fdiv (Int.ofNat m) (Int.ofNat (n + 1)) from e.symm] at q
    exact ⟨PyProof.Rows.floordiv_int hn (q _) (.inl hp), PyProof.Rows.ifloordiv_int hn (q _) (.inl hp)⟩
theorem OpOK.fMod : OpOK .Mod fMod := fun i j z h prog w A s t u Q q => by
  cases j <;> first | cases h | skip
  rename_i n
  cases n with
  | zero => cases h
  | succ n =>
    have hn : (Int.ofNat (n + 1)) ≠ 0 := by intro e; cases e
    have e : z = Int.fmod i (Int.ofNat (n + 1)) := by
      cases i with
      | ofNat m => cases h; exact Int.ofNat_fmod m (n + 1)
      | negSucc m => cases h; rfl
    subst e
    exact ⟨PyProof.Rows.mod_int' hn (q _), PyProof.Rows.imod_int hn (q _)⟩
theorem OpOK.fShl : OpOK .LShift fShl := fun i j z h prog w A s t u Q q => by
  cases i <;> cases j <;> first | cases h | skip
  rename_i m n
  obtain ⟨h1, h2⟩ := yn_none h
  obtain ⟨h3, h4⟩ := yn_none h2
  cases h4
  have e : Int.ofNat m * 2 ^ (Int.ofNat n).toNat = Int.ofNat (m * 2 ^ n) := by show (m : Int) * 2 ^ n = ((m * 2 ^ n : Nat) : Int); simp
  rw [show Int.ofNat (Nat.mul m (Nat.pow 2 n)) = Int.ofNat m * 2 ^ (Int.ofNat n).toNat from e.symm] at q
  have a1 : (0 : Int) ≤ Int.ofNat n := Int.natCast_nonneg n
  have a2 : Int.ofNat n ≤ 1000000 := by have := Nat.le_of_ble_eq_true h3; show (n : Int) ≤ 1000000; omega
  have a3 : (Int.ofNat m).natAbs < 2 ^ 64 := Nat.lt_trans (small_lt h1) (by decide)
  exact ⟨PyProof.Rows.lshift_int_small a1 a2 a3 (q _), PyProof.Rows.ilshift_int_small a1 a2 a3 (q _)⟩
theorem OpOK.fShr : OpOK .RShift fShr := fun i j z h prog w A s t u Q q => by
  cases i <;> cases j <;> first | cases h | skip
  rename_i m n
  have e : Int.fdiv (Int.ofNat m) (2 ^ (Int.ofNat n).toNat) = Int.ofNat (m / 2 ^ n) := by
    have := Int.ofNat_fdiv m (2 ^ n)
    rw [show ((2 ^ n : Nat) : Int) = (2 : Int) ^ n by simp] at this
    exact this.symm
  rw [show Int.ofNat (Nat.div m (Nat.pow 2 n)) = Int.fdiv (Int.ofNat m) (2 ^ (Int.ofNat n).toNat) from e.symm] at q
  have a1 : (0 : Int) ≤ Int.ofNat n := Int.natCast_nonneg n
  exact ⟨PyProof.Rows.rshift_int a1 (q _), PyProof.Rows.irshift_int a1 (q _)⟩
theorem bitAnd_nat (m n : Nat) : Builtin.bitAnd (Int.ofNat m) (Int.ofNat n) = Int.ofNat (m &&& n) := by
  unfold Builtin.bitAnd
  rw [decide_eq_true (show (0 : Int) ≤ Int.ofNat m from Int.natCast_nonneg m), decide_eq_true (show (0 : Int) ≤ Int.ofNat n from Int.natCast_nonneg n)]
  rfl
theorem OpOK.fAnd : OpOK .BitAnd fAnd := fun i j z h prog w A s t u Q q => by
  cases i <;> cases j <;> first | cases h | skip
  rename_i m n
  rw [show Int.ofNat (Nat.land m n) = Builtin.bitAnd (Int.ofNat m) (Int.ofNat n) from (bitAnd_nat m n).symm] at q
  exact ⟨PyProof.Rows.and_int (q _), PyProof.Rows.iand_int (q _)⟩
theorem bitOr_nat (m n : Nat) : Builtin.bitOr (Int.ofNat m) (Int.ofNat n) = Int.ofNat (m ||| n) := by
  unfold Builtin.bitOr Builtin.bitAnd Builtin.bitNot
  rw [decide_eq_false (show ¬ (0 : Int) ≤ -Int.ofNat m - 1 by have := Int.natCast_nonneg m; show ¬ (0 : Int) ≤ -(m : Int) - 1; omega), decide_eq_false (show ¬ (0 : Int) ≤ -Int.ofNat n - 1 by have := Int.natCast_nonneg n; show ¬ (0 : Int) ≤ -(n : Int) - 1; omega)]
  show -(-((((-(-(m : Int) - 1) - 1).toNat ||| (-(-(n : Int) - 1) - 1).toNat : Nat)) : Int) - 1) - 1 = ((m ||| n : Nat) : Int)
  rw [show (-(-(m : Int) - 1) - 1) = (m : Int) by omega, show (-(-(n : Int) - 1) - 1) = (n : Int) by omega, Int.toNat_natCast, Int.toNat_natCast]
  omega
theorem OpOK.fOr : OpOK .BitOr fOr := fun i j z h prog w A s t u Q q => by
  cases i <;> cases j <;> first | cases h | skip
  rename_i m n
  rw [show Int.ofNat (Nat.lor m n) = Builtin.bitOr (Int.ofNat m) (Int.ofNat n) from (bitOr_nat m n).symm] at q
  exact ⟨PyProof.Rows.or_int (q _), PyProof.Rows.ior_int (q _)⟩
theorem OpOK.fPow : OpOK .Pow fPow := fun i j z h prog w A s t u Q q => by
  cases i <;> cases j <;> first | cases h | skip
  rename_i m n
  obtain ⟨h1, h2⟩ := yn_none h
  obtain ⟨h3, h4⟩ := yn_none h2
  cases h4
  have e : Int.ofNat m ^ (Int.ofNat n).toNat = Int.ofNat (m ^ n) := by show (m : Int) ^ n = ((m ^ n : Nat) : Int); simp
  rw [show Int.ofNat (Nat.pow m n) = Int.ofNat m ^ (Int.ofNat n).toNat from e.symm] at q
  have a1 : (0 : Int) ≤ Int.ofNat n := Int.natCast_nonneg n
  have a2 : ((Builtin.Int.intBits (Int.ofNat m) : Nat) : Int) * Int.ofNat n ≤ 2 ^ 27 := by
    have b1 : Builtin.Int.intBits (Int.ofNat m) ≤ 64 := intBits_le_64 (by have := Int.natCast_nonneg m; show -(2 ^ 64) < (m : Int); omega) (by have := Nat.le_of_ble_eq_true h1; show (m : Int) < 2 ^ 64; omega)
    have b2 := Nat.le_of_ble_eq_true h3
    have : Builtin.Int.intBits (Int.ofNat m) * n ≤ 64 * 1000 := Nat.mul_le_mul b1 b2
    show ((Builtin.Int.intBits (Int.ofNat m) : Nat) : Int) * (n : Int) ≤ 2 ^ 27
    have : ((Builtin.Int.intBits (Int.ofNat m) * n : Nat) : Int) ≤ 64000 := by omega
    rw [Int.natCast_mul] at this
    omega
  exact ⟨PyProof.Rows.pow_int a1 a2 (q _), PyProof.Rows.ipow_int a1 a2 (q _)⟩
end Mine

namespace Mine
open PySem PySem.W PySem.Calls PyProof.Rows

theorem yn_split {γ : Type} {b : Bool} {f t : Option γ} {r : γ} : yn b f t = some r → (match b with | true => t | false => f) = some r := by cases b <;> exact id
theorem CmOK.kLt : CmOK .Lt kLt := fun a b t e r h => by
  obtain ⟨i, rfl, h1⟩ := asI_some h
  obtain ⟨j, rfl, h2⟩ := asI_some h1
  refine ⟨_, yn_split h2, fun G w nx va vb A s Q ha hb _ _ q => ?_⟩
  obtain ⟨t, rfl⟩ := ha.int_
  obtain ⟨u, rfl⟩ := hb.int_
  exact PyProof.Rows.lt_int (by rw [← ilt_eq]; exact q)
theorem CmOK.kLe : CmOK .LtE kLe := fun a b t e r h => by
  obtain ⟨i, rfl, h1⟩ := asI_some h
  obtain ⟨j, rfl, h2⟩ := asI_some h1
  refine ⟨_, yn_split h2, fun G w nx va vb A s Q ha hb _ _ q => ?_⟩
  obtain ⟨t, rfl⟩ := ha.int_
  obtain ⟨u, rfl⟩ := hb.int_
  exact PyProof.Rows.le_int (by rw [← ile_eq]; exact q)
theorem CmOK.kGt : CmOK .Gt kGt := fun a b t e r h => by
  obtain ⟨i, rfl, h1⟩ := asI_some h
  obtain ⟨j, rfl, h2⟩ := asI_some h1
  refine ⟨_, yn_split h2, fun G w nx va vb A s Q ha hb _ _ q => ?_⟩
  obtain ⟨t, rfl⟩ := ha.int_
  obtain ⟨u, rfl⟩ := hb.int_
  exact PyProof.Rows.gt_int (by rw [← ilt_eq]; exact q)
theorem CmOK.kGe : CmOK .GtE kGe := fun a b t e r h => by
  obtain ⟨i, rfl, h1⟩ := asI_some h
  obtain ⟨j, rfl, h2⟩ := asI_some h1
  refine ⟨_, yn_split h2, fun G w nx va vb A s Q ha hb _ _ q => ?_⟩
  obtain ⟨t, rfl⟩ := ha.int_
  obtain ⟨u, rfl⟩ := hb.int_
  exact PyProof.Rows.ge_int (by rw [← ile_eq]; exact q)

/- trees as data -/
theorem mapO_cons {α β : Type} {f : α → Option β} {x : α} {l : List α} {r : List β} (h : mapO f (x :: l) = some r) : ∃ y ys, f x = some y ∧ mapO f l = some ys ∧ r = y :: ys := by
  obtain ⟨y, h1, h2⟩ := bo_some (o := f x) h
  obtain ⟨ys, h3, h4⟩ := bo_some (o := mapO f l) h2
  cases h4
  exact ⟨y, ys, h1, h3, rfl⟩
theorem toPy_ok : ∀ (n : Nat) (v : V) (d : PyData), toPy n v = some d → d.canLay0 = true ∧ d.depth ≤ n ∧ ∀ (fa : Nat → Addr) (D : Fact) (h : Heap) (val : Value), VF fa D v val → (∀ a o, D a o → h.get? a = some o) → ∃ as, Reads h val d as
  | 0, v, d, e => nomatch e
  | n + 1, v, d, e => by
    have all : ∀ (xs : List V) (ds : List PyData), mapO (toPy n) xs = some ds → PyData.canLayAll0 ds = true ∧ PyData.depthAll ds ≤ n ∧ ∀ (fa : Nat → Addr) (D : Fact) (h : Heap) (vals : List Value), VFs fa D xs vals → (∀ a o, D a o → h.get? a = some o) → ∃ as, ReadsAll h vals ds as := by
      intro xs
      induction xs with
      | nil =>
        intro ds e
        cases e
        exact ⟨rfl, Nat.zero_le _, fun fa D h vals hv hd => by cases hv; exact ⟨[], .nil⟩⟩
      | cons x r ih =>
        intro ds e
        obtain ⟨y, ys, e1, e2, rfl⟩ := mapO_cons e
        obtain ⟨a1, a2, a3⟩ := toPy_ok n x y e1
        obtain ⟨b1, b2, b3⟩ := ih ys e2
        refine ⟨Bool.and_eq_true_iff.mpr ⟨a1, b1⟩, Nat.max_le.mpr ⟨a2, b2⟩, fun fa D h vals hv hd => ?_⟩
        cases hv with
        | cons p q =>
          obtain ⟨as, c1⟩ := a3 fa D h _ p hd
          obtain ⟨bs, c2⟩ := b3 fa D h _ q hd
          exact ⟨as ++ bs, .cons c1 c2⟩
    cases v with
    | int i => cases e; exact ⟨rfl, Nat.zero_le _, fun fa D h val hv _ => by cases hv; exact ⟨[], .int _ _⟩⟩
    | bool b => cases e; exact ⟨rfl, Nat.zero_le _, fun fa D h val hv _ => by cases hv; exact ⟨[], .bool _⟩⟩
    | fn k => cases e
    | ref k => cases e
    | lst xs =>
      obtain ⟨ds, e1, e2⟩ := bo_some (o := mapO (toPy n) xs) e
      cases e2
      obtain ⟨b1, b2, b3⟩ := all xs ds e1
      refine ⟨b1, Nat.succ_le_succ b2, fun fa D h val hv hd => ?_⟩
      cases hv with
      | lst p q =>
        obtain ⟨as, c⟩ := b3 fa D h _ q hd
        exact ⟨_, reads_list_at (hd _ _ p) rfl rfl (by simpa using c)⟩
    | tup xs =>
      obtain ⟨ds, e1, e2⟩ := bo_some (o := mapO (toPy n) xs) e
      cases e2
      obtain ⟨b1, b2, b3⟩ := all xs ds e1
      refine ⟨b1, Nat.succ_le_succ b2, fun fa D h val hv hd => ?_⟩
      cases hv with
      | tup p q =>
        obtain ⟨as, c⟩ := b3 fa D h _ q hd
        exact ⟨_, reads_tuple_at (hd _ _ p) rfl rfl (by simpa using c)⟩
theorem eqD_ok {a b : V} {q : Bool} (h : eqD a b = some q) : ∀ (G : Pg) (w : Wd) (nx : Nat) (va vb : Value) (A : Around) (s : Shared), isRef a = false → isRef b = false → VR G w nx a va → VR G w nx b vb → (∀ a o, w.D a o → s.heap.get? a = some o) → A.units + 64 < cLine →
    ∀ Q : Value → Shared → Prop, (Q (.bool q) s → wpAny (model G.prog G.w) A (compareOp .Eq va vb) Q (fun _ _ => False) s) ∧ (Q (.bool (!q)) s → wpAny (model G.prog G.w) A (compareOp .NotEq va vb) Q (fun _ _ => False) s) := by
  obtain ⟨da, h1, h2⟩ := bo_some h
  obtain ⟨db, h3, h4⟩ := bo_some h2
  cases h4
  intro G w nx va vb A s ra rb ha hb hd hu Q
  obtain ⟨a1, a2, a3⟩ := toPy_ok 8 a da h1
  obtain ⟨b1, b2, b3⟩ := toPy_ok 8 b db h3
  obtain ⟨as, r1⟩ := a3 G.fa w.D s.heap va (ha.frozen ra) hd
  obtain ⟨bs, r2⟩ := b3 G.fa w.D s.heap vb (hb.frozen rb) hd
  have s1 : SeqAt.shaped da = true := Bool.and_eq_true_iff.mpr ⟨a1, decide_eq_true (Nat.le_trans a2 (by decide))⟩
  have s2 : SeqAt.shaped db = true := Bool.and_eq_true_iff.mpr ⟨b1, decide_eq_true (Nat.le_trans b2 (by decide))⟩
  exact ⟨fun q => eq_dataH r1 r2 s1 s2 hu q, fun q => ne_dataH r1 r2 s1 s2 hu q⟩
theorem toPy_ref {n m : Nat} : toPy n (.ref m) = none := by cases n <;> rfl
theorem eqO_ok {a b : V} {q : Bool} (h : eqO a b = some q) : ∀ (G : Pg) (w : Wd) (nx : Nat) (va vb : Value) (A : Around) (s : Shared), VR G w nx a va → VR G w nx b vb → (∀ a o, w.D a o → s.heap.get? a = some o) → A.units + 64 < cLine →
    ∀ Q : Value → Shared → Prop, (Q (.bool q) s → wpAny (model G.prog G.w) A (compareOp .Eq va vb) Q (fun _ _ => False) s) ∧ (Q (.bool (!q)) s → wpAny (model G.prog G.w) A (compareOp .NotEq va vb) Q (fun _ _ => False) s) := by
  have deep : isRef a = false → eqD a b = some q → ∀ (G : Pg) (w : Wd) (nx : Nat) (va vb : Value) (A : Around) (s : Shared), VR G w nx a va → VR G w nx b vb → (∀ a o, w.D a o → s.heap.get? a = some o) → A.units + 64 < cLine →
    ∀ Q : Value → Shared → Prop, (Q (.bool q) s → wpAny (model G.prog G.w) A (compareOp .Eq va vb) Q (fun _ _ => False) s) ∧ (Q (.bool (!q)) s → wpAny (model G.prog G.w) A (compareOp .NotEq va vb) Q (fun _ _ => False) s) := by
    intro ra h' G w nx va vb A s ha hb hd hu Q
    refine eqD_ok h' G w nx va vb A s ra ?_ ha hb hd hu Q
    cases b <;> try rfl
    obtain ⟨_, _, h2⟩ := bo_some h'
    obtain ⟨_, h3, _⟩ := bo_some h2
    rw [toPy_ref] at h3
    cases h3
  cases a with
  | int i =>
    obtain ⟨j, rfl, h1⟩ := asI_some h
    cases h1
    intro G w nx va vb A s ha hb hd hu Q
    obtain ⟨t, rfl⟩ := ha.int_
    obtain ⟨u, rfl⟩ := hb.int_
    rw [ieq_eq]
    exact ⟨fun q => PyProof.Rows.eq_int q, fun q => PyProof.Rows.ne_int q⟩
  | bool p =>
    obtain ⟨j, rfl, h1⟩ := asB_some h
    have e : q = (p == j) := by cases p <;> cases j <;> cases h1 <;> rfl
    intro G w nx va vb A s ha hb hd hu Q
    cases ha.bool_
    cases hb.bool_
    rw [e]
    exact ⟨fun q => eq_bool q, fun q => ne_bool q⟩
  | fn k => cases h
  | ref k => cases h
  | lst xs => exact deep rfl h
  | tup xs => exact deep rfl h
theorem CmOK.kEq : CmOK .Eq kEq := fun a b t e r h => by
  obtain ⟨q, h1, h2⟩ := bo_some h
  exact ⟨q, yn_split h2, fun G w nx va vb A s Q ha hb hd hu k => (eqO_ok h1 G w nx va vb A s ha hb hd hu Q).1 k⟩
theorem CmOK.kNe : CmOK .NotEq kNe := fun a b t e r h => by
  obtain ⟨q, h1, h2⟩ := bo_some h
  refine ⟨!q, by cases q <;> exact h2, fun G w nx va vb A s Q ha hb hd hu k => (eqO_ok h1 G w nx va vb A s ha hb hd hu Q).2 k⟩

section
variable {G : Pg} {x : Fx} {p : Pos}
theorem plain_list {es : List PySem.Expr} {env : Env} {pos : Pos} (h : ∀ e ∈ es, plE e = true) : (backTo pos (starEach es env)).any (·.1) = false := by
  induction es with
  | nil => rfl
  | cons e r ih =>
    rw [star_plain (h e (.head _))]
    exact ih fun i hi => h i (.tail _ hi)
/-- a name of the built-in ones -/
theorem load_blt {d : Nat} {c : Cfg} (g : Good G x d c) {y : Str} {v : Value} {st : St} {w : Wd} {s : Shared} {Q : Value → Shared → Prop} {pn : Pos} (ok : OK G x c w st s.heap) (hx : x.scope.names.lookup y = some .globalImplicit)
    (hm : nsIn G.K mainGlobals y = some none) (hb : bootBuiltins y = some v) (hn : y ≠ "__name__") (hd : (y == ("__debug__" : Str)) = false) (q : Q v s) : wpAny (model G.prog G.w) c.A (eval (.Name y pn) c.env) Q (fun _ _ => False) s := by
  have hk : c.env.scope.kind = .function := by rw [g.scope]; exact g.kind
  exact Name_function_global hk (by show c.env.scope.names.lookup y = _; rw [g.scope]; exact hx) (loadGlobal_builtin (by rw [g.globals]; exact g.T.g.keeps ok.F.keep) (mg_none_of g.K g.T.g hm) (by rw [g.builtins]; exact g.T.b.keeps ok.F.keep) ((g.T.builtins y hn).trans hb) q) hd
theorem call_eval {f : PySem.Expr} {as : List PySem.Expr} {env : Env} (h : plE f = true) : eval (.Call f as [] p) env = (do callWith p (← eval f env) [] (backTo p (starEach as env)) (backToKw p (keywordEach [] env))) := by cases f <;> first | rfl | cases h
theorem args_run {M : Model} {A : Around} {E : Value → Shared → Prop} {s : Shared} {env : Env} {f : Value} {e : PySem.Expr} {es : List PySem.Expr} {Q : Args → Shared → Prop} (hp : plE e = true)
    (h : wpAny M A (spliced (backTo p (starEach (e :: es) env))) (fun vs s' => Q ⟨vs, []⟩ s') E s) : wpAny M A (evalArgs f true (backTo p (starEach (e :: es) env)) []) Q E s := by
  rw [star_plain hp] at h ⊢
  exact evalArgs_plain h
theorem SndE.len {pn : Pos} {e : PySem.Expr} {f : CE} (hx : x.scope.names.lookup (Str.ofString "len") = some .globalImplicit) (a : SndE G x e f) : SndE G x (.Call (.Name (Str.ofString "len") pn) [e] [] p) (cLen f) := ⟨rfl, fun d ca hc st k r h => by
  obtain ⟨v, st1, s1, h1⟩ := a.snd d ca hc st _ r h
  obtain ⟨xs, ex, h2⟩ := bo_some h1
  obtain ⟨e1, h3⟩ := yn_none h2
  refine ⟨_, _, fun c g w s Q ok q => Call_ (load_blt g ok hx g.pg.len PyProof.Rows.Boot.len (by decide) (by decide) ?_) (call_eval rfl), h3⟩
  refine callWith_builtin (plain_list fun e he => by cases he with | head => exact a.pl | tail _ h => cases h) (args_run a.pl (args_cons (s1 c g w s _ ok fun w1 h1 t1 v1 ok1 ex1 hv1 => args_nil ?_) (star_plain a.pl)))
  obtain ⟨a1, vs, n1, rfl, g1, i1⟩ := ok1.items hv1 ex
  have hz := shortL_le i1 e1
  have hq : VR G w1 st1.nx (.int (.ofNat (lenL xs))) (.int ((vs.toArray.size : Nat) : Int) (t1 + 1)) := by rw [i1.length, List.size_toArray]; exact VR.of (.int _ _)
  exact Calls.call_len_list ⟨_, g1, rfl, _, rfl⟩ (by rw [List.size_toArray]; omega) (q w1 h1 _ _ ok1 ex1 hq)⟩
theorem SndE.min {pn : Pos} {l r : PySem.Expr} {f₁ f₂ : CE} (hx : x.scope.names.lookup (Str.ofString "min") = some .globalImplicit) (a : SndE G x l f₁) (b : SndE G x r f₂) : SndE G x (.Call (.Name (Str.ofString "min") pn) [l, r] [] p) (cMin f₁ f₂) := ⟨rfl, fun d ca hc st k r h => by
  obtain ⟨v, st1, s1, h1⟩ := a.snd d ca hc st _ r h
  obtain ⟨u, st2, s2, h2⟩ := b.snd d ca hc st1 _ r h1
  obtain ⟨i, rfl, h3⟩ := asI_some h2
  obtain ⟨j, rfl, h4⟩ := asI_some h3
  refine ⟨.int (if j < i then j else i), st2, fun c g w s Q ok q => Call_ (load_blt g ok hx g.pg.min PyProof.Rows.Boot.min (by decide) (by decide) ?_) (call_eval rfl), ?_⟩
  · refine callWith_builtin (plain_list fun e he => by cases he with | head => exact a.pl | tail _ h => cases h with | head => exact b.pl | tail _ h => cases h) (args_run a.pl (args_cons (s1 c g w s _ ok fun w1 h1 t1 v1 ok1 ex1 hv1 =>
      args_cons (s2 c g w1 _ _ ok1 fun w2 h2 t2 v2 ok2 ex2 hv2 => args_nil ?_) (star_plain b.pl)) (star_plain a.pl)))
    obtain ⟨t, rfl⟩ := hv1.int_
    obtain ⟨t', rfl⟩ := hv2.int_
    refine min_two_ints g.hh fun h' tk hk => ?_
    by_cases hq : j < i
    · simp only [if_pos hq]; exact q w2 h' tk _ (ok2.keep hk) (ex1.trans ex2) (VR.of (by rw [if_pos hq]; exact .int _ _))
    · simp only [if_neg hq]; exact q w2 h' tk _ (ok2.keep hk) (ex1.trans ex2) (VR.of (by rw [if_neg hq]; exact .int _ _))
  · have h5 : (if j < i then k (.int j) st2 else k (.int i) st2) = some r := by
      have := ilt_eq j i
      by_cases hq : j < i
      · rw [if_pos hq]; rw [decide_eq_true hq] at this; rw [← h4]; show _ = yn (ilt j i) _ _; rw [this]
      · rw [if_neg hq]; rw [decide_eq_false hq] at this; rw [← h4]; show _ = yn (ilt j i) _ _; rw [this]
    by_cases hq : j < i
    · rw [if_pos hq] at h5 ⊢; exact h5
    · rw [if_neg hq] at h5 ⊢; exact h5⟩
/-- a method's call, as the interpreter makes it where the name stands on the bracket's line -/
def MethOK (o : PySem.Expr) (name : Str) (apos pos : Pos) (args : List PySem.Expr) : Prop := ∀ env : Env, ∃ pl : Sem Bool, eval (.Call (.Attribute o name apos) args [] pos) env = (do
  let ov ← eval o env
  standAt apos.atName
  let (f, first) ← holding [ov] (getMethod ov name pl)
  callWith pos f first (backTo pos (starEach args env)) [])
theorem SndE.bits {pa : Pos} {e : PySem.Expr} {f : CE} (hm : MethOK e (Str.ofString "bit_length") pa p []) (a : SndE G x e f) : SndE G x (.Call (.Attribute e (Str.ofString "bit_length") pa) [] [] p) (cBits f) := ⟨rfl, fun d ca hc st k r h => by
  obtain ⟨v, st1, s1, h1⟩ := a.snd d ca hc st _ r h
  obtain ⟨m, rfl, h2⟩ := asN_some h1
  refine ⟨_, _, fun c g w s Q ok q => ?_, h2⟩
  obtain ⟨pl, he⟩ := hm c.env
  refine MethodCall_ (pl := pl) (s1 c g w s _ ok fun w1 h1 t1 v1 ok1 ex1 hv1 => ?_) he
  obtain ⟨t, rfl⟩ := hv1.int_
  refine getMethod_int_bit_length (callWith_builtin rfl (evalArgs_nil3 (call_int_bit_length ?_)))
  have e : ((Builtin.Int.intBits (Int.ofNat m) : Nat) : Int) = Int.ofNat (natc m 0 fun _ => Nat.succ (Nat.log2 m)) := by
    cases m with
    | zero => rfl
    | succ m =>
      unfold Builtin.Int.intBits
      rw [if_neg (by intro q; cases (beq_iff_eq.mp q))]
      rfl
  rw [e]
  exact q w1 h1 _ _ ok1 ex1 (VR.of (.int _ _))⟩

theorem place_nonneg {m n k : Nat} (h : place (Int.ofNat m) n = some k) : k = m := by cases h; rfl
theorem place_neg {m n k : Nat} (h : place (Int.negSucc m) n = some k) : m + 1 ≤ n ∧ k = n - (m + 1) := by
  obtain ⟨h1, h2⟩ := yn_none h
  cases h2
  exact ⟨Nat.le_of_ble_eq_true h1, rfl⟩
theorem place_seq {j : Int} {n k : Nat} (h : place j n = some k) (hk : k < n) : seqIndex? j n = some k := by
  cases j with
  | ofNat m =>
    cases place_nonneg h
    exact seqIndex_of (Int.natCast_nonneg k) (Int.ofNat_lt.mpr hk)
  | negSucc m =>
    obtain ⟨h1, rfl⟩ := place_neg h
    rw [PySem.seqIndex_neg (by omega) (by omega)]
    congr 1
    omega
theorem place_bounds {j : Int} {n k : Nat} (h : place j n = some k) (hn : n ≤ 4096) (hk : k < n) : -(2 ^ 63 : Int) ≤ j ∧ j < 2 ^ 63 := by
  cases j with
  | ofNat m =>
    cases place_nonneg h
    have h1 : (k : Int) < 4096 := Int.lt_of_lt_of_le (Int.ofNat_lt.mpr hk) (Int.ofNat_le.mpr hn)
    have h2 : (0 : Int) ≤ (k : Int) := Int.natCast_nonneg k
    exact ⟨Int.le_trans (by decide) h2, Int.lt_of_lt_of_le h1 (by decide)⟩
  | negSucc m =>
    obtain ⟨h1, _⟩ := place_neg h
    constructor <;> omega
theorem getItem_any {prog : Program} {w : World} {A : Around} {E : Value → Shared → Prop} {s : Shared} {l : Addr} {vs : List Value} {j : Int} {t : Tok} {k : Nat} {y : Value} {Q : Value → Shared → Prop} (hl : s.heap.IsList l vs.toArray)
    (hp : place j vs.length = some k) (hz : vs.length ≤ 4096) (hk : k < vs.length) (hy : vs[k]? = some y) (h : Q y s) : wpAny (model prog w) A (getItem (.ref l) (.int j t)) Q E s := by
  obtain ⟨b1, b2⟩ := place_bounds hp hz hk
  cases j with
  | ofNat m =>
    cases place_nonneg hp
    exact wpAny_getItem_list hl (Int.natCast_nonneg k) b2 (by simpa using hy) h
  | negSucc m =>
    obtain ⟨h1, rfl⟩ := place_neg hp
    have e : (Int.negSucc m + ((vs.toArray.size : Nat) : Int)).toNat = vs.length - (m + 1) := by rw [List.size_toArray]; omega
    exact wpAny_getItem_list_neg hl (by omega) (by rw [List.size_toArray]; omega) b1 (by rw [e]; simpa using hy) h
theorem sub_plain {sl : PySem.Expr} (h : plE sl = true) (o i : Value) : subscripted sl false o i = operate [o, i] (getItem o i) := by cases sl <;> first | rfl | cases h
theorem SndE.sub {l i : PySem.Expr} {f₁ f₂ : CE} (a : SndE G x l f₁) (b : SndE G x i f₂) : SndE G x (.Subscript l i p) (cSub f₁ f₂) := ⟨rfl, fun d ca hc st k r h => by
  obtain ⟨v, st1, s1, h1⟩ := a.snd d ca hc st _ r h
  obtain ⟨u, st2, s2, h2⟩ := b.snd d ca hc st1 _ r h1
  obtain ⟨j, rfl, h3⟩ := asI_some h2
  obtain ⟨xs, ex, h4⟩ := bo_some h3
  obtain ⟨e1, h5⟩ := yn_none h4
  obtain ⟨n, en, h6⟩ := bo_some h5
  obtain ⟨y, ey, h7⟩ := bo_some h6
  refine ⟨y, st2, fun c g w s Q ok q => Subscript_ (s1 c g w s _ ok fun w1 h1 t1 v1 ok1 ex1 hv1 => s2 c g w1 _ _ ok1 fun w2 h2 t2 v2 ok2 ex2 hv2 => ?_), h7⟩
  obtain ⟨t, rfl⟩ := hv2.int_
  have hv := hv1.ext ex2
  have fin : ∀ a vs, v1 = .ref a → VFs G.fa w2.D xs vs → (∀ (yv : Value), vs[n]? = some yv → n < vs.length → place j vs.length = some n → vs.length ≤ 4096 → wpAny (model G.prog G.w) c.A (getItem (.ref a) (.int j t)) (fun r s' => r = yv ∧ s' = { s with heap := h2, toks := t2 }) (fun _ _ => False) { s with heap := h2, toks := t2 }) →
      (∃ T id, Shared.TypeIs { s with heap := h2, toks := t2 } (.ref a) T ∧ typeLookup (.type T) "__getitem__" = pure (some (.builtin id))) →
      wpAny (model G.prog G.w) c.A (subscriptTail l i v1 (.int j t)) Q (fun _ _ => False) { s with heap := h2, toks := t2 } := by
    rintro a vs rfl hvs hg ⟨T, id, hT, hl⟩
    obtain ⟨yv, hy, hyv⟩ := hvs.nth ey
    have hlt : n < vs.length := (List.getElem?_eq_some_iff.mp hy).1
    refine tail_any hT hl (wpAny_mono (hg yv hy hlt (by rw [← hvs.length]; exact en) (shortL_le hvs e1)) (fun r s' hr => ?_) fun _ _ e => e) (sub_plain b.pl _ _)
    obtain ⟨rfl, rfl⟩ := hr
    exact q w2 h2 t2 _ ok2 (ex1.trans ex2) (VR.of hyv)
  have isL : ∀ a vs m, v1 = .ref a → h2.get? a = some (LO vs m) → VFs G.fa w2.D xs vs → wpAny (model G.prog G.w) c.A (subscriptTail l i v1 (.int j t)) Q (fun _ _ => False) { s with heap := h2, toks := t2 } := by
    intro a vs m ha hh hvs
    have hl : Heap.IsList h2 a vs.toArray := ⟨_, hh, rfl, _, rfl⟩
    refine fin a vs ha hvs (fun yv hy hlt hp hz => ?_) ⟨"list", _, Heap.IsList.typeIs (s := { s with heap := h2, toks := t2 }) hl, slot_list_getitem.lookup⟩
    exact getItem_any hl hp hz hlt hy ⟨rfl, rfl⟩
  cases v with
  | lst ys =>
    obtain ⟨a, vs, m, h1', h2', h3'⟩ := hv.lst_
    cases ex
    exact isL a vs m h1' (ok2.ds _ _ h2').1 h3'
  | ref m =>
    obtain ⟨a, vs, m', h1', h2'⟩ := hget_led ok2.lr ex
    exact isL a vs m' (hv.2 _ h1' rfl) (ok2.ls _ h1').1 h2'
  | tup ys =>
    obtain ⟨a, vs, m, h1', h2', h3'⟩ := hv.tup_
    cases ex
    have hh := (ok2.ds _ _ h2').1
    have ht : IsTup (Shared.heap { s with heap := _, toks := t2 }) a vs.toArray := ⟨_, hh, rfl, _, rfl⟩
    refine fin a vs h1' h3' (fun yv hy hlt hp hz => ?_) ⟨"tuple", _, IsTup.typeIs ht, slot_tuple_getitem.lookup⟩
    obtain ⟨b1, b2⟩ := place_bounds hp hz hlt
    exact getItem_tuple ht b1 b2 (by rw [List.size_toArray]; exact place_seq hp hlt) (by simpa using hy) ⟨rfl, rfl⟩
  | _ => cases ex⟩
end
end Mine

namespace Mine
open PySem PySem.W PySem.Calls PyProof.Rows

theorem bound_int {d n k : Nat} {i : Int} (h : bound d n (some (.int i)) = some k) : k = clipAt n i := by
  cases i with
  | ofNat m =>
    have h' : some (yn (Nat.ble m n) n m) = some k := h
    cases h'
    show yn (Nat.ble m n) n m = clipAt n (m : Int)
    rw [clipAt_nat, ble_eq]
    by_cases q : m ≤ n
    · rw [decide_eq_true q, Nat.min_eq_left q]
    · rw [decide_eq_false q, Nat.min_eq_right (by omega)]
  | negSucc m =>
    have h' : some (yn (Nat.ble (m + 1) n) 0 (Nat.sub n (m + 1))) = some k := h
    cases h'
    rw [show Int.negSucc m = -((m + 1 : Nat) : Int) from rfl, clipAt_neg _ _ (Nat.succ_le_succ (Nat.zero_le m)), ble_eq]
    by_cases q : m + 1 ≤ n
    · rw [decide_eq_true q]; rfl
    · rw [decide_eq_false q]; show 0 = _; omega

/-- a bound of a slice -/
inductive SndO (G : Pg) (x : Fx) : Option PySem.Expr → Option CE → Prop
  | none : SndO G x none none
  | some {e : PySem.Expr} {f : CE} : SndE G x e f → SndO G x (some e) (some f)
inductive OV (G : Pg) (w : Wd) (nx : Nat) : Option V → Value → Prop
  | none : OV G w nx none .none
  | some {v : V} {val : Value} : VR G w nx v val → OV G w nx (some v) val
theorem OV.ext {G : Pg} {w w' : Wd} {n n' : Nat} {o : Option V} {val : Value} (h : OV G w n o val) (x : Ext w n w' n') : OV G w' n' o val := by
  cases h with
  | none => exact .none
  | some h => exact .some (h.ext x)
theorem OV.part {G : Pg} {w : Wd} {nx d n k : Nat} {o : Option V} {val : Value} (h : OV G w nx o val) (e : bound d n o = Option.some k) : ∃ i, IsPart val i ∧ i.elim d (clipAt n) = k := by
  cases h with
  | none => cases e; exact ⟨_, .none, rfl⟩
  | some h =>
    rename_i v
    obtain ⟨i, rfl, _⟩ := asI_some (v := v) e
    obtain ⟨t, rfl⟩ := h.int_
    exact ⟨_, .int i t, (bound_int e).symm⟩
section
variable {G : Pg} {x : Fx} {p : Pos}
theorem SndO.snd {oe : Option PySem.Expr} {of : Option CE} (h : SndO G x oe of) : ∀ d ca, SndCa G d ca → ∀ st k r, evO ca of st k = Option.some r → ∃ o st', k o st' = Option.some r ∧
    ∀ (c : Cfg), Good G x d c → ∀ (w : Wd) (s : Shared) (Q : Value → Shared → Prop), OK G x c w st s.heap →
    (∀ w' h' tk val, OK G x c w' st' h' → Ext w st.nx w' st'.nx → OV G w' st'.nx o val → Q val { s with heap := h', toks := tk }) →
    wpAny (model G.prog G.w) c.A (evalPart oe c.env) Q (fun _ _ => False) s := by
  intro d ca hc st k r e
  cases h with
  | none => exact ⟨Option.none, st, e, fun c g w s Q ok q => wpAny_pure (q w s.heap s.toks _ ok (Ext.refl ..) .none)⟩
  | some a =>
    obtain ⟨v, st1, s1, h1⟩ := a.snd d ca hc st _ r e
    exact ⟨Option.some v, st1, h1, fun c g w s Q ok q => s1 c g w s _ ok fun w1 h1 t1 v1 ok1 ex1 hv1 => q w1 h1 t1 v1 ok1 ex1 (.some hv1)⟩
theorem SndE.slice {mu : Bool} {l : PySem.Expr} {lo hi : Option PySem.Expr} {f : CE} {flo fhi : Option CE} {ps : Pos} (a : SndE G x l f) (b : SndO G x lo flo) (e : SndO G x hi fhi) :
    SndE G x (.Subscript l (.Slice lo hi none ps) p) (cSlice mu f flo fhi) := ⟨rfl, fun d ca hc st k r h => by
  obtain ⟨v, st1, s1, h1⟩ := a.snd d ca hc st _ r h
  obtain ⟨o1, st2, h2, s2⟩ := b.snd d ca hc st1 _ r h1
  obtain ⟨o2, st3, h3, s3⟩ := e.snd d ca hc st2 _ r h2
  obtain ⟨xs, ex, h4⟩ := bo_some h3
  obtain ⟨e1, h5⟩ := yn_none h4
  obtain ⟨i, ei, h6⟩ := bo_some h5
  obtain ⟨j, ej, h7⟩ := bo_some h6
  obtain ⟨v', st4, h8, nw⟩ := new_some h7
  refine ⟨v', st4, fun c g w s Q ok q => Subscript_ (s1 c g w s _ ok fun w1 h1 t1 v1 ok1 ex1 hv1 => wpAny_Slice (s2 c g w1 _ _ ok1 fun w2 h2 t2 v2 ok2 ex2 hv2 => s3 c g w2 _ _ ok2 fun w3 h3 t3 v3 ok3 ex3 hv3 => wpAny_pure ?_)), h8⟩
  have hv := (hv1.ext ex2).ext ex3
  obtain ⟨a1, vs, n1, rfl, g1, i1⟩ := ok3.items hv ex
  obtain ⟨i', p1, q1⟩ := (hv2.ext ex3).part ei
  obtain ⟨j', p2, q2⟩ := hv3.part ej
  have hz := shortL_le i1 e1
  have len := i1.length
  have hl : Heap.IsList h3 a1 vs.toArray := ⟨_, g1, rfl, _, rfl⟩
  have hp : slicePick vs.toArray i' j' none = ((vs.drop i).take (j - i)).toArray := by
    rw [slicePick_plain, List.size_toArray, ← len, q1, q2]
  refine tail_any (Heap.IsList.typeIs (hl.push _)) slot_list_getitem.lookup (wpAny_getItem_list_slice (hl.push _) (Heap.IsSliceOf.new ..) p1 p2 .none (by simp) ?_ (by rw [List.size_toArray]; exact Nat.le_trans hz (by decide))) rfl
  rw [hp]
  obtain ⟨w4, ok4, ex4, hv4⟩ := nw G x c w3 h3 _ _ ((vs.drop i).take (j - i)) 0 ok3 (fun b o e => push_keep _ (LO ((vs.drop i).take (j - i)) 0) _ _ (push_keep h3 { cls := .type "slice", data := .fields #[v2, v3, .none] } _ _ e)) (Heap.get?_push_size _ rfl)
    (by rw [Heap.size_push]; cases hq : h3.get? (h3.objs.size + 1) with | none => rfl | some o => exact absurd (Heap.lt_size hq) (by simp)) ((i1.drop i).take (j - i))
  exact q w4 _ t3 _ ok4 (((ex1.trans ex2).trans ex3).trans ex4) hv4⟩

theorem SndE.callP {fe e : PySem.Expr} {es : List PySem.Expr} {ff : CE} {fs : List CE} (a : SndE G x fe ff) (b : SndF G x (e :: es) fs) : SndE G x (.Call fe (e :: es) [] p) (cCallP ff fs) := ⟨rfl, fun d ca hc st k r h => by
  obtain ⟨v, st1, s1, h1⟩ := a.snd d ca hc st _ r h
  obtain ⟨n, rfl, h2⟩ := asF_some h1
  obtain ⟨vs, st2, s2, h3⟩ := b.snd d ca hc st1 _ r h2
  obtain ⟨y, hy, h4⟩ := bo_some h3
  obtain ⟨hn, hp⟩ := hc.pure n vs y hy
  refine ⟨y, st2, fun c g w s Q ok q => Call_ (s1 c g w s _ ok fun w1 h1 t1 v1 ok1 ex1 hv1 => ?_) (call_eval a.pl), h4⟩
  cases hv1.fn_
  refine callWith_K (h₀ := c.h₀) g.K (g.pg.keep n hn) (s2 c g p w1 _ _ ok1 fun w2 h2 t2 vals ok2 ex2 hv2 => ⟨g.K.keeps ok2.F.keep, ?_⟩) (star_plain (b.pl e (.head _))) (plain_list fun i hi => b.pl i (.tail _ hi))
  refine hp x c g w2.m _ w2.D vals _ ok2.F (fun a o e => (ok2.ds a o e).1) hv2 fun h' tk val N hk hN hv => ?_
  exact q (w2.addD N) h' tk val (ok2.addD hk hN) ((ex1.trans ex2).trans (Ext.addD ..)) (VR.of hv)⟩
theorem SndE.callI {fe e : PySem.Expr} {es : List PySem.Expr} {ff : CE} {fs : List CE} (a : SndE G x fe ff) (b : SndR G x (e :: es) fs) : SndE G x (.Call fe (e :: es) [] p) (cCallI ff fs) := ⟨rfl, fun d ca hc st k r h => by
  obtain ⟨v, st1, s1, h1⟩ := a.snd d ca hc st _ r h
  obtain ⟨n, rfl, h2⟩ := asF_some h1
  obtain ⟨vs, st2, s2, h3⟩ := b.snd d ca hc st1 _ r h2
  obtain ⟨y, hy, h4⟩ := bo_some h3
  obtain ⟨hn, hp⟩ := hc.run n vs st2.hp st2.nx y hy
  refine ⟨y.1, ⟨st2.lm, y.2.1, y.2.2⟩, fun c g w s Q ok q => Call_ (s1 c g w s _ ok fun w1 h1 t1 v1 ok1 ex1 hv1 => ?_) (call_eval a.pl), h4⟩
  cases hv1.fn_
  refine callWith_K (h₀ := c.h₀) g.K (g.pg.keep n hn) (s2 c g p w1 _ _ ok1 fun w2 h2 t2 vals ok2 ex2 hv2 => ⟨g.K.keeps ok2.F.keep, ?_⟩) (star_plain (b.pl e (.head _))) (plain_list fun i hi => b.pl i (.tail _ hi))
  refine hp x c g st2.lm w2 _ vals _ ok2 hv2 fun w3 h3 t3 val ok3 ex3 hv3 => ?_
  exact q w3 h3 t3 val ok3 ((ex1.trans ex2).trans ex3) (VR.of hv3)⟩
end
end Mine

namespace Mine
open PySem PySem.W PySem.Calls PyProof.Rows

section
variable {prog : Program} {w : World} {A : Around} {E : Value → Shared → Prop} {s : Shared}
theorem setItem_any {l : Addr} {vs : List Value} {n : Nat} {j : Int} {t : Tok} {v : Value} {k : Nat} {Q : Unit → Shared → Prop} (ho : s.heap.get? l = some (LO vs n)) (hp : place j vs.length = some k) (hz : vs.length ≤ 4096) (hk : k < vs.length)
    (hQ : ∀ h', h'.get? l = some (LO (vs.set k v) n) → Heap.SameBut l s.heap h' → Q () { s with heap := h' }) : wpAny (model prog w) A (setItem (.ref l) (.int j t) v) Q E s := by
  have hT : s.TypeIs (.ref l) "list" := ⟨_, ho, rfl⟩
  obtain ⟨b1, b2⟩ := place_bounds hp hz hk
  have hfit : Builtin.List.listFitsIndex j = true := by
    unfold Builtin.List.listFitsIndex
    rw [Bool.and_eq_true_iff]
    exact ⟨decide_eq_true b1, decide_eq_true b2⟩
  have hidx := place_seq hp hk
  have hx : vs.toArray[k]? = some vs[k] := by simp [hk]
  unfold setItem
  try with_reducible refine wpAny_holding ?_
  first | refine wpAny_bind (wpAny_pure ?_) | skip
  refine wpAny_bind (wpAny_sequenceKey hT (by decide) ?_)
  refine wpAny_bind (wpAny_callSpecial?_slot (name := Str.ofString "__setitem__") hT slot_list_setitem
    (wpAny_call_entry slot_list_setitem hT entry_list_setitem ?_ (args_list_setitem _ _ _)))
  show wpAny _ _ (Builtin.List.listSubscript? (.int j t) >>= _) _ _ s
  refine wpAny_bind (wpAny_listSubscript_int hfit ?_)
  cases j with
  | ofNat m =>
    cases place_nonneg hp
    show wpAny _ _ ((seqItemAt l k >>= fun r => pure (r.map (k, ·))) >>= _) _ _ s
    refine wpAny_bind (wpAny_bind (wpAny_seqItemAt ho rfl (wpAny_pure ?_)))
    rw [hx]
    show wpAny _ _ (setSeqItemAt l k v >>= _) _ _ s
    refine wpAny_bind (wpAny_setSeqItemAt ho rfl ?_)
    have q := hQ (s.heap.update l (Obj.mapSeq (·.setIfInBounds k v))) (by rw [Heap.get?_update_self _ ho (by simp [Obj.mapSeq, Obj.isFreed])]; simp [Obj.mapSeq]) (Heap.SameBut.update ..)
    first
      | exact wpAny_bind (wpAny_pure (wpAny_pure ⟨.none, rfl, wpAny_pure q⟩))
      | exact wpAny_pure ⟨.none, rfl, wpAny_pure q⟩
  | negSucc m =>
    show wpAny _ _ ((Builtin.List.listItems (.ref l) >>= fun xs => pure ((seqIndex? (Int.negSucc m) xs.size).bind fun i => xs[i]?.map (i, ·))) >>= _) _ _ s
    refine wpAny_bind (wpAny_bind ?_)
    show wpAny _ _ (seqItems? (.ref l) >>= _) _ _ s
    refine wpAny_bind (wpAny_seqItems ho rfl (wpAny_pure (wpAny_pure ?_)))
    rw [List.size_toArray, hidx]
    simp only [Option.bind_some, hx, Option.map_some]
    show wpAny _ _ (setSeqItemAt l k v >>= _) _ _ s
    refine wpAny_bind (wpAny_setSeqItemAt ho rfl ?_)
    have q := hQ (s.heap.update l (Obj.mapSeq (·.setIfInBounds k v))) (by rw [Heap.get?_update_self _ ho (by simp [Obj.mapSeq, Obj.isFreed])]; simp [Obj.mapSeq]) (Heap.SameBut.update ..)
    first
      | exact wpAny_bind (wpAny_pure (wpAny_pure ⟨.none, rfl, wpAny_pure q⟩))
      | exact wpAny_pure ⟨.none, rfl, wpAny_pure q⟩
theorem append_any {l : Addr} {vs : List Value} {n : Nat} {v : Value} {Q : Value → Shared → Prop} (ho : s.heap.get? l = some (LO vs n)) (hz : vs.length ≤ 4096)
    (hQ : ∀ h', (∃ m, h'.get? l = some (LO (vs ++ [v]) m)) → Heap.SameBut l s.heap h' → Q .none { s with heap := h' }) : wpAny (model prog w) A (call (.builtin "list.append") [.ref l, v]) Q E s := by
  have hT : s.TypeIs (.ref l) "list" := ⟨_, ho, rfl⟩
  refine wpAny_call_entry slot_list_append hT entry_list_append ?_ (args_list_append _ _)
  show wpAny _ _ (updateSeq l (·.push v) >>= fun _ => ret .none) _ _ s
  have z1 : vs.toArray.size ≤ sizeLine := by rw [List.size_toArray]; exact Nat.le_trans hz (by decide)
  refine wpAny_bind (wpAny_updateSeq ho rfl (wpAny_pure ⟨.none, rfl, hQ _ ⟨n + 1, ?_⟩ (Heap.SameBut.update ..)⟩) z1 (by rw [Array.size_push]; exact Nat.succ_le_succ z1))
  rw [Heap.get?_update_self _ ho (by simp [Obj.mapSeq, Obj.isFreed])]
  simp [Obj.mapSeq]
end
end Mine

namespace Mine
open PySem PySem.W PySem.Calls PyProof.Rows

inductive Fl where
  | nxt
  | ret (v : V)
inductive FlR (G : Pg) (w : Wd) : Fl → Flow → Prop
  | nxt : FlR G w .nxt .next
  | ret {v : V} {val : Value} : VF G.fa w.D v val → FlR G w (.ret v) (.ret val)
section
variable (G : Pg) (x : Fx) (d : Nat)
def StepS (s : Stmt) (st : St) (f : Fl) (st' : St) : Prop :=
  ∀ (c : Cfg), Good G x d c → ∀ (w : Wd) (sh : Shared) (Q : Flow → Shared → Prop), OK G x c w st sh.heap →
    (∀ w' h' tk fl, OK G x c w' st' h' → Ext w st.nx w' st'.nx → FlR G w' f fl → Q fl { sh with heap := h', toks := tk }) →
    wpAny (model G.prog G.w) c.A (exec s c.env) Q (fun _ _ => False) sh
def StepB (ss : List Stmt) (st : St) (f : Fl) (st' : St) : Prop :=
  ∀ (c : Cfg), Good G x d c → ∀ (w : Wd) (sh : Shared) (Q : Flow → Shared → Prop), OK G x c w st sh.heap →
    (∀ w' h' tk fl, OK G x c w' st' h' → Ext w st.nx w' st'.nx → FlR G w' f fl → Q fl { sh with heap := h', toks := tk }) →
    wpAny (model G.prog G.w) c.A (execs ss c.env) Q (fun _ _ => False) sh
end
/-- the two ways out of a piece: on, or back -/
def Outs (P : Fl → St → Prop) (k : St → RR) (r : V × Hp × Nat) : Prop := (∃ st', P .nxt st' ∧ k st' = some r) ∨ (∃ v st', P (.ret v) st' ∧ r = (v, st'.hp, st'.nx))
def SndS (G : Pg) (x : Fx) (s : Stmt) (f : CS) : Prop := ∀ d ca, SndCa G d ca → ∀ st k r, f ca st k = some r → Outs (StepS G x d s st) k r
def SndB (G : Pg) (x : Fx) (ss : List Stmt) (f : CS) : Prop := ∀ d ca, SndCa G d ca → ∀ st k r, f ca st k = some r → Outs (StepB G x d ss st) k r

section
variable {G : Pg} {x : Fx} {p : Pos}
theorem SndB.nil : SndB G x [] sNil := fun d ca hc st k r h => .inl ⟨st, fun c g w sh Q ok q => wpAny_execs_nil (q w sh.heap sh.toks _ ok (Ext.refl ..) .nxt), h⟩
theorem StepB.cons {d : Nat} {s : Stmt} {ss : List Stmt} {st st1 st2 : St} {f : Fl} (s1 : StepS G x d s st .nxt st1) (s2 : StepB G x d ss st1 f st2) : StepB G x d (s :: ss) st f st2 := fun c g w sh Q ok q =>
  wpAny_execs_cons (s1 c g w sh _ ok fun w1 h1 t1 fl ok1 ex1 hf => by cases hf; exact s2 c g w1 _ _ ok1 fun w2 h2 t2 fl ok2 ex2 hf2 => q w2 h2 t2 fl ok2 (ex1.trans ex2) hf2)
theorem StepB.stop {d : Nat} {s : Stmt} {ss : List Stmt} {st st1 : St} {v : V} (s1 : StepS G x d s st (.ret v) st1) : StepB G x d (s :: ss) st (.ret v) st1 := fun c g w sh Q ok q =>
  wpAny_execs_cons (s1 c g w sh _ ok fun w1 h1 t1 fl ok1 ex1 hf => by cases hf with | ret hv => exact q w1 h1 t1 _ ok1 ex1 (.ret hv))
theorem SndB.seq {s : Stmt} {ss : List Stmt} {f₁ f₂ : CS} (a : SndS G x s f₁) (b : SndB G x ss f₂) : SndB G x (s :: ss) (sSeq f₁ f₂) := fun d ca hc st k r h => by
  rcases a d ca hc st _ r h with ⟨st1, s1, h1⟩ | ⟨v, st1, s1, h1⟩
  · rcases b d ca hc st1 _ r h1 with ⟨st2, s2, h2⟩ | ⟨v, st2, s2, h2⟩
    · exact .inl ⟨st2, .cons s1 s2, h2⟩
    · exact .inr ⟨v, st2, .cons s1 s2, h2⟩
  · exact .inr ⟨v, st1, .stop s1, h1⟩
theorem SndS.no {s : Stmt} : SndS G x s sNo := fun d ca hc st k r h => by cases h
theorem put_some {i : Nat} {v : V} {st : St} {k : St → RR} {r : V × Hp × Nat} (h : put i v st k = some r) : ∃ l, setL st.lm i v = some l ∧ k ⟨l, st.hp, st.nx⟩ = some r := bo_some h
/-- a name is bound -/
theorem store_loc {d : Nat} {c : Cfg} (g : Good G x d c) {i : Nat} {y : Str} {v : V} {val : Value} {st : St} {w : Wd} {s : Shared} {l : List (Option V)} {Q : Unit → Shared → Prop} (hy : x.names[i]? = some y) (hk : x.scope.names.lookup y = some .local)
    (ok : OK G x c w st s.heap) (hv : VR G w st.nx v val) (hs : setL st.lm i v = some l)
    (q : ∀ h' tk, OK G x c (w.store y val) ⟨l, st.hp, st.nx⟩ h' → Q () { s with heap := h', toks := tk }) : wpAny (model G.prog G.w) c.A (storeName c.env y val) Q (fun _ _ => False) s := by
  have hl : c.env.kindOf y = some .local := by show c.env.scope.names.lookup y = _; rw [g.scope]; exact hk
  have hp : (c.env.scope.kind == .class || (c.env.scope.kind == .module && c.env.locals != c.env.globals)) = false := by rw [g.scope, g.kind]; rfl
  refine wpAny_storeName_local hl (g.locals ▸ ok.F.ns) (fun h' hn hb => ?_) hp
  rw [g.locals] at hn hb
  exact q h' _ (ok.store g hy hl hv hs hn hb)
theorem swaps_no {e : PySem.Expr} (h : plA e = true) (t : Option PySem.Expr) (n : Nat) (env : Env) : swapsWith e t n env = pure false := by cases e <;> first | rfl | cases h
theorem SndS.asg {i : Nat} {y : Str} {px : Pos} {e : PySem.Expr} {f : CE} (hy : x.names[i]? = some y) (hk : x.scope.names.lookup y = some .local) (ha : plA e = true) (a : SndE G x e f) : SndS G x (.Assign [.Name y px] e p) (sAsg i f) := fun d ca hc st k r h => by
  obtain ⟨v, st1, s1, h1⟩ := a.snd d ca hc st _ r h
  obtain ⟨l, hl, h2⟩ := put_some h1
  refine .inl ⟨_, fun c g w sh Q ok q => wpAny_Assign_Name (s1 c g w sh _ ok fun w1 h1 t1 v1 ok1 ex1 hv1 => ?_) (swaps_no ha ..), h2⟩
  exact store_loc g hy hk ok1 hv1 hl fun h' tk ok2 => q (w1.store y v1) h' tk _ ok2 (ex1.trans (Ext.store ..)) .nxt
theorem SndS.ret {e : PySem.Expr} {f : CE} (a : SndE G x e f) : SndS G x (.Return (some e) p) (sRet f) := fun d ca hc st k r h => by
  obtain ⟨v, st1, s1, h1⟩ := a.snd d ca hc st _ r h
  obtain ⟨v', st2, h2, fz⟩ := frz_some h1
  refine .inr ⟨v', st2, fun c g w sh Q ok q => wpAny_Return_some (s1 c g w sh _ ok fun w1 h1 t1 v1 ok1 ex1 hv1 => ?_), (Option.some.inj h2).symm⟩
  obtain ⟨w2, ok2, ex2, hv2⟩ := fz G x c w1 h1 v1 ok1 hv1
  exact q w2 h1 t1 _ ok2 (ex1.trans ex2) (.ret hv2)
theorem SndS.ifs {t : PySem.Expr} {b o : List Stmt} {ft : CC} {f₁ f₂ : CS} (a : SndC G x t ft) (hb : SndB G x b f₁) (ho : SndB G x o f₂) : SndS G x (.If t b o p) (sIf ft f₁ f₂) := fun d ca hc st k r h => by
  obtain ⟨q, st1, s1, h1⟩ := a.snd d ca hc st _ _ r h
  have on : ∀ f st2, StepB G x d (match q with | true => b | false => o) st1 f st2 → StepS G x d (.If t b o p) st f st2 := fun f st2 s2 c g w sh Q ok k => by
    refine wpAny_If (s1 c g w sh _ ok fun w1 h1 t1 ok1 ex1 => ?_)
    have := s2 c g w1 { sh with heap := h1, toks := t1 } Q ok1 fun w2 h2 t2 fl ok2 ex2 hf2 => k w2 h2 t2 fl ok2 (ex1.trans ex2) hf2
    cases q <;> exact this
  cases q with
  | true =>
    rcases hb d ca hc st1 _ r h1 with ⟨st2, s2, h2⟩ | ⟨v, st2, s2, h2⟩
    · exact .inl ⟨st2, on _ _ s2, h2⟩
    · exact .inr ⟨v, st2, on _ _ s2, h2⟩
  | false =>
    rcases ho d ca hc st1 _ r h1 with ⟨st2, s2, h2⟩ | ⟨v, st2, s2, h2⟩
    · exact .inl ⟨st2, on _ _ s2, h2⟩
    · exact .inr ⟨v, st2, on _ _ s2, h2⟩
theorem SndS.aug {i : Nat} {y : Str} {px : Pos} {op : Operator} {fo : Int → Int → Option Int} {e : PySem.Expr} {f : CE} (hy : x.names[i]? = some y) (hk : x.scope.names.lookup y = some .local) (o : OpOK op fo) (a : SndE G x e f) :
    SndS G x (.AugAssign (.Name y px) op e p) (sAug i fo f) := fun d ca hc st k r h => by
  obtain ⟨u, hu, h1⟩ := bo_some h
  obtain ⟨m, rfl, h2⟩ := asI_some h1
  obtain ⟨v, st1, s1, h3⟩ := a.snd d ca hc st _ r h2
  obtain ⟨n, rfl, h4⟩ := asI_some h3
  obtain ⟨z, hz, h5⟩ := bo_some h4
  obtain ⟨l, hl, h6⟩ := put_some h5
  refine .inl ⟨_, fun c g w sh Q ok q => wpAny_AugAssign_Name (load_loc g hy ok hu fun val hv => s1 c g w sh _ ok fun w1 h1 t1 v1 ok1 ex1 hv1 => ?_), h6⟩
  obtain ⟨t, rfl⟩ := hv.int_
  obtain ⟨t', rfl⟩ := hv1.int_
  exact (o m n z hz _ _ _ _ t t' _ fun tk => store_loc (s := { sh with heap := h1, toks := t1 + 1 }) g hy hk ok1 (VR.of (.int z tk)) hl fun h' tk' ok2 => q (w1.store y _) h' tk' _ ok2 (ex1.trans (Ext.store ..)) .nxt).2
theorem SndS.asgS {i : Nat} {y : Str} {po ps : Pos} {j e : PySem.Expr} {fj f : CE} (hy : x.names[i]? = some y) (ha : plA e = true) (b : SndE G x j fj) (a : SndE G x e f) :
    SndS G x (.Assign [.Subscript (.Name y po) j ps] e p) (sAsgS i fj f) := fun d ca hc st k r h => by
  obtain ⟨v, st1, s1, h1⟩ := a.snd d ca hc st _ r h
  obtain ⟨e1, h2⟩ := yn_some h1
  obtain ⟨u, hu, h3⟩ := bo_some h2
  obtain ⟨n, rfl, h4⟩ := asR_some h3
  obtain ⟨m, st2, s2, h5⟩ := b.snd d ca hc st1 _ r h4
  obtain ⟨jj, rfl, h6⟩ := asI_some h5
  obtain ⟨xs, hx, h7⟩ := bo_some h6
  obtain ⟨e2, h8⟩ := yn_none h7
  obtain ⟨q, hq, h9⟩ := bo_some h8
  obtain ⟨ys, hys, h10⟩ := bo_some h9
  refine .inl ⟨_, fun c g w sh Q ok k => wpAny_Assign_Subscript (s1 c g w sh _ ok fun w1 h1 t1 v1 ok1 ex1 hv1 => wpAny_Name (load_loc g hy ok1 hu fun val hv => s2 c g w1 _ _ ok1 fun w2 h2 t2 v2 ok2 ex2 hv2 => ?_) (nb_of g hy)) (swaps_no ha ..), h10⟩
  obtain ⟨t, rfl⟩ := hv2.int_
  obtain ⟨a1, vs, n1, g1, i1⟩ := hget_led ok2.lr hx
  cases (hv.ext ex2).2 _ g1 rfl
  have hv' := ((hv1.ext ex2).frozen e1)
  obtain ⟨lt, i2⟩ := i1.setNth hys hv'
  refine setItem_any (ok2.ls _ g1).1 (by rw [← i1.length]; exact hq) (shortL_le i1 e2) lt fun h' ho hb => ?_
  exact k _ h' t2 _ (ok2.upd g1 hb ho i2) ((ex1.trans ex2).trans (Ext.upd ..)) .nxt
theorem SndS.app {i : Nat} {y : Str} {px pa pc : Pos} {e : PySem.Expr} {f : CE} (hy : x.names[i]? = some y) (hm : MethOK (.Name y px) (Str.ofString "append") pa pc [e]) (a : SndE G x e f) :
    SndS G x (.Expr (.Call (.Attribute (.Name y px) (Str.ofString "append") pa) [e] [] pc) p) (sApp i f) := fun d ca hc st k r h => by
  obtain ⟨u, hu, h1⟩ := bo_some h
  obtain ⟨n, rfl, h2⟩ := asR_some h1
  obtain ⟨zs, hz, h2'⟩ := bo_some h2
  obtain ⟨v, st1, s1, h3⟩ := a.snd d ca hc st _ r h2'
  obtain ⟨e1, h4⟩ := yn_some h3
  obtain ⟨xs, hx, h5⟩ := bo_some h4
  obtain ⟨e2, h6⟩ := yn_none h5
  refine .inl ⟨_, fun c g w sh Q ok k => ?_, h6⟩
  obtain ⟨pl, he⟩ := hm c.env
  have hi : interactive c.env = false := by unfold interactive; rw [g.scope, g.kind]; rfl
  refine wpAny_Expr_any (MethodCall_ (pl := pl) (wpAny_Name (load_loc g hy ok hu fun val hv => ?_) (nb_of g hy)) he) hi rfl
  obtain ⟨a0, vs0, n0, g0, i0⟩ := hget_led ok.lr hz
  cases hv.2 _ g0 rfl
  refine getMethod_list_append (ok.ls _ g0).1 rfl rfl ?_
  refine callWith_builtin (plain_list fun e he => by cases he with | head => exact a.pl | tail _ h => cases h) (args_run a.pl (args_cons (s1 c g w _ _ ok fun w1 h1 t1 v1 ok1 ex1 hv1 => args_nil ?_) (star_plain a.pl)))
  obtain ⟨a1, vs, n1, g1, i1⟩ := hget_led ok1.lr hx
  cases (hv.ext ex1).2 _ g1 rfl
  refine append_any (ok1.ls _ g1).1 (shortL_le i1 e2) fun h' ho hb => ?_
  obtain ⟨m, ho⟩ := ho
  exact k _ h' t1 _ (ok1.upd g1 hb ho (i1.app (.cons (hv1.frozen e1) .nil))) (ex1.trans (Ext.upd ..)) .nxt
end
end Mine

namespace Mine
open PySem PySem.W PySem.Calls PyProof.Rows

theorem wpF {α : Type} {M : Model} {A : Around} {t : Sem α} {Q : α → Shared → Prop} {E : Value → Shared → Prop} {s : Shared} (h : wpAny M A t Q (fun _ _ => False) s) : wpAny M A t Q E s := wpAny_mono h (fun _ _ q => q) fun _ _ f => f.elim
section
variable {M : Model} {A : Around} {E : Value → Shared → Prop} {s : Shared} {Q : Unit → Shared → Prop}
theorem ord2 {t1 t2 : Value → Sem Unit} {v1 v2 : Value} (h : wpAny M A (t1 v1) (fun _ s1 => wpAny M A (t2 v2) Q E s1) E s) : wpAny M A (assignInOrder [t1, t2] [v1, v2]) Q E s :=
  wpAny_bind (wpAny_holding (wpAny_mono h (fun _ _ h1 => wpAny_bind (wpAny_holding (wpAny_mono h1 (fun _ _ q => wpAny_pure q) fun _ _ e => e))) fun _ _ e => e))
theorem ord3 {t1 t2 t3 : Value → Sem Unit} {v1 v2 v3 : Value} (h : wpAny M A (t1 v1) (fun _ s1 => wpAny M A (t2 v2) (fun _ s2 => wpAny M A (t3 v3) Q E s2) E s1) E s) : wpAny M A (assignInOrder [t1, t2, t3] [v1, v2, v3]) Q E s :=
  wpAny_bind (wpAny_holding (wpAny_mono h (fun _ _ h1 => ord2 h1) fun _ _ e => e))
end

section
variable {G : Pg} {x : Fx} {p : Pos}
/-- the form of a tuple's assignment that stores from the last name to the first -/
def Swap (x : Fx) (ts es : List PySem.Expr) (pt pv : Pos) (ys : List Str) : Prop := ∀ env : Env, env.scope = x.scope → swappedStores [.Tuple ts 0 pt] (.Tuple es 0 pv) env = pure (some ys)
theorem sole (t e : PySem.Expr) (n : Nat) (env : Env) : swapsWithSole [t] e n env = swapsWith e (some t) n env := rfl
theorem ExtBut.keep {h h' : Heap} (e : Heap.ExtBut h.objs.size h h') : Keep h h' := fun b o q => e b o (Nat.ne_of_lt (Heap.lt_size q)) q
theorem SndS.asgT2 {ts es : List PySem.Expr} {pt pv : Pos} {i1 i2 : Nat} {y1 y2 : Str} {fs : List CE} (n1 : x.names[i1]? = some y1) (k1 : x.scope.names.lookup y1 = some .local) (n2 : x.names[i2]? = some y2) (k2 : x.scope.names.lookup y2 = some .local)
    (sw : Swap x ts es pt pv [y1, y2]) (a : SndR G x es fs) : SndS G x (.Assign [.Tuple ts 0 pt] (.Tuple es 0 pv) p) (sAsgT [i1, i2] fs) := fun d ca hc st k r h => by
  have h0 : evR ca fs st (fun vs st => putR [i1, i2] vs st k) = some r := h
  obtain ⟨vs, st1, s1, h1⟩ := a.snd d ca hc st _ r h0
  match vs, s1, h1 with
  | [], _, h1 => cases h1
  | [_], _, h1 => cases h1
  | _ :: _ :: _ :: _, _, h1 => cases h1
  | [v1, v2], s1, h1 =>
    have h2 : put i2 v2 st1 (fun st => put i1 v1 st k) = some r := h1
    obtain ⟨l2, e2, h3⟩ := put_some h2
    obtain ⟨l1, e1, h4⟩ := put_some h3
    refine .inl ⟨_, fun c g w sh Q ok q => ?_, h4⟩
    refine Assign_Tuple_swapped (names := [y1, y2]) (Tuple_ (s1 c g pv w sh _ ok fun w1 h1 t1 vals ok1 ex1 hv1 => ?_)) rfl (sw c.env g.scope)
    rcases hv1 with _ | ⟨r1, hv1⟩
    rcases hv1 with _ | ⟨r2, hv1⟩
    cases hv1
    refine wpAny_newObj_type ?_ (by show (2 : Nat) ≤ sizeLine; decide)
    refine unpackItems_tuple (items := #[_, _]) g.hh ⟨_, Heap.get?_push_size _ rfl, rfl, _, rfl⟩ fun h' he => ?_
    have ok2 := (ok1.keep (push_keep h1 _)).keep (ExtBut.keep he)
    refine ord2 (bindName_ (store_loc g n2 k2 ok2 r2 e2 fun h3 t3 ok3 => bindName_ (store_loc g n1 k1 ok3 (r1.ext (Ext.store ..)) e1 fun h4 t4 ok4 => ?_)))
    exact q _ h4 t4 _ ok4 ((ex1.trans (Ext.store ..)).trans (Ext.store ..)) .nxt
theorem SndS.asgT3 {ts es : List PySem.Expr} {pt pv : Pos} {i1 i2 i3 : Nat} {y1 y2 y3 : Str} {fs : List CE} (n1 : x.names[i1]? = some y1) (k1 : x.scope.names.lookup y1 = some .local) (n2 : x.names[i2]? = some y2) (k2 : x.scope.names.lookup y2 = some .local)
    (n3 : x.names[i3]? = some y3) (k3 : x.scope.names.lookup y3 = some .local) (sw : Swap x ts es pt pv [y1, y2, y3]) (a : SndR G x es fs) : SndS G x (.Assign [.Tuple ts 0 pt] (.Tuple es 0 pv) p) (sAsgT [i1, i2, i3] fs) := fun d ca hc st k r h => by
  have h0 : evR ca fs st (fun vs st => putR [i1, i2, i3] vs st k) = some r := h
  obtain ⟨vs, st1, s1, h1⟩ := a.snd d ca hc st _ r h0
  match vs, s1, h1 with
  | [], _, h1 => cases h1
  | [_], _, h1 => cases h1
  | [_, _], _, h1 => cases h1
  | _ :: _ :: _ :: _ :: _, _, h1 => cases h1
  | [v1, v2, v3], s1, h1 =>
    have h2 : put i3 v3 st1 (fun st => put i2 v2 st fun st => put i1 v1 st k) = some r := h1
    obtain ⟨l3, e3, h2'⟩ := put_some h2
    obtain ⟨l2, e2, h3⟩ := put_some h2'
    obtain ⟨l1, e1, h4⟩ := put_some h3
    refine .inl ⟨_, fun c g w sh Q ok q => ?_, h4⟩
    refine Assign_Tuple_swapped (names := [y1, y2, y3]) (Tuple_ (s1 c g pv w sh _ ok fun w1 h1 t1 vals ok1 ex1 hv1 => ?_)) rfl (sw c.env g.scope)
    rcases hv1 with _ | ⟨r1, hv1⟩
    rcases hv1 with _ | ⟨r2, hv1⟩
    rcases hv1 with _ | ⟨r3, hv1⟩
    cases hv1
    refine wpAny_newObj_type ?_ (by show (3 : Nat) ≤ sizeLine; decide)
    refine unpackItems_tuple (items := #[_, _, _]) g.hh ⟨_, Heap.get?_push_size _ rfl, rfl, _, rfl⟩ fun h' he => ?_
    have ok2 := (ok1.keep (push_keep h1 _)).keep (ExtBut.keep he)
    refine ord3 (bindName_ (store_loc g n3 k3 ok2 r3 e3 fun h3 t3 ok3 => bindName_ (store_loc g n2 k2 ok3 (r2.ext (Ext.store ..)) e2 fun h4 t4 ok4 => bindName_ (store_loc g n1 k1 ok4 ((r1.ext (Ext.store ..)).ext (Ext.store ..)) e1 fun h5 t5 ok5 => ?_))))
    exact q _ h5 t5 _ ok5 (((ex1.trans (Ext.store ..)).trans (Ext.store ..)).trans (Ext.store ..)) .nxt
theorem SndS.asgU2 {p1 p2 pt : Pos} {e : PySem.Expr} {i1 i2 : Nat} {y1 y2 : Str} {f : CE} (n1 : x.names[i1]? = some y1) (k1 : x.scope.names.lookup y1 = some .local) (n2 : x.names[i2]? = some y2) (k2 : x.scope.names.lookup y2 = some .local)
    (ha : plA e = true) (sw : ∀ env : Env, swappedStores [.Tuple [.Name y1 p1, .Name y2 p2] 0 pt] e env = pure none) (a : SndE G x e f) : SndS G x (.Assign [.Tuple [.Name y1 p1, .Name y2 p2] 0 pt] e p) (sAsgU [i1, i2] f) := fun d ca hc st k r h => by
  obtain ⟨v, st1, s1, h1⟩ := a.snd d ca hc st _ r h
  obtain ⟨vs, rfl, h2⟩ := asT_some h1
  match vs, s1, h2 with
  | [], _, h2 => cases h2
  | [_], _, h2 => obtain ⟨_, _, h3⟩ := put_some (k := fun _ => none) h2; cases h3
  | a :: b :: _ :: _, _, h2 =>
    obtain ⟨_, _, h3⟩ := put_some (i := i1) (v := a) (st := st1) (k := fun st => put i2 b st fun _ => none) h2
    obtain ⟨_, _, h4⟩ := put_some h3
    cases h4
  | [v1, v2], s1, h2 =>
    have h3 : put i1 v1 st1 (fun st => put i2 v2 st k) = some r := h2
    obtain ⟨l1, e1, h4⟩ := put_some h3
    obtain ⟨l2, e2, h5⟩ := put_some h4
    refine .inl ⟨_, fun c g w sh Q ok q => Assign_Tuple (s1 c g w sh _ ok fun w1 h1 t1 v1 ok1 ex1 hv1 => ?_) ((sole ..).trans (swaps_no ha ..)) (sw _), h5⟩
    obtain ⟨ad, vals, n, rfl, hd, hvs⟩ := hv1.tup_
    rcases hvs with _ | ⟨r1, hvs⟩
    rcases hvs with _ | ⟨r2, hvs⟩
    cases hvs
    refine wpAny_assign_Tuple (items := #[_, _]) g.hh ⟨_, (ok1.ds _ _ hd).1, rfl, _, rfl⟩ rfl rfl fun h' he => ?_
    have ok2 := ok1.keep (ExtBut.keep he)
    refine ord2 (assign_Name (store_loc g n1 k1 ok2 (VR.of r1) e1 fun h3 t3 ok3 => assign_Name (store_loc g n2 k2 ok3 ((VR.of r2 : VR G w1 st1.nx _ _).ext (Ext.store ..)) e2 fun h4 t4 ok4 => ?_)))
    exact q _ h4 t4 _ ok4 ((ex1.trans (Ext.store ..)).trans (Ext.store ..)) .nxt
end
end Mine

namespace Mine
open PySem PySem.W PySem.Calls PyProof.Rows

/- while -/
inductive LoopW (G : Pg) (x : Fx) (d : Nat) (t : PySem.Expr) (b : List Stmt) : Nat → St → Fl → St → Prop
  | stop {n : Nat} {st st' : St} : StepC G x d t st false st' → LoopW G x d t b (n + 1) st .nxt st'
  | back {n : Nat} {st st1 st2 : St} {v : V} : StepC G x d t st true st1 → StepB G x d b st1 (.ret v) st2 → LoopW G x d t b (n + 1) st (.ret v) st2
  | turn {n : Nat} {st st1 st2 st' : St} {f : Fl} : StepC G x d t st true st1 → StepB G x d b st1 .nxt st2 → LoopW G x d t b n st2 f st' → LoopW G x d t b (n + 1) st f st'
section
variable {G : Pg} {x : Fx} {p : Pos}
theorem whl_some {t : PySem.Expr} {b : List Stmt} {ft : CC} {f : CS} (ht : SndC G x t ft) (hb : SndB G x b f) {d : Nat} {ca : Ca} (hc : SndCa G d ca) {k : St → RR} {r : V × Hp × Nat} :
    ∀ n st, whl ca ft f k n st = some r → Outs (LoopW G x d t b n st) k r
  | 0, st, h => by cases h
  | n + 1, st, h => by
    have h0 : ft ca st (fun st => f ca st (whl ca ft f k n)) k = some r := h
    obtain ⟨q, st1, s1, h1⟩ := ht.snd d ca hc st _ _ r h0
    cases q with
    | false => exact .inl ⟨st1, .stop s1, h1⟩
    | true =>
      rcases hb d ca hc st1 _ r h1 with ⟨st2, s2, h2⟩ | ⟨v, st2, s2, h2⟩
      · rcases whl_some ht hb hc n st2 h2 with ⟨st3, s3, h3⟩ | ⟨v, st3, s3, h3⟩
        · exact .inl ⟨st3, .turn s1 s2 s3, h3⟩
        · exact .inr ⟨v, st3, .turn s1 s2 s3, h3⟩
      · exact .inr ⟨v, st2, .back s1 s2, h2⟩
inductive WInv (G : Pg) (x : Fx) (d : Nat) (c : Cfg) (t : PySem.Expr) (b : List Stmt) (w : Wd) (n0 : Nat) (f : Fl) (st' : St) (sh : Shared) : Nat → Shared → Prop
  | mk {n : Nat} {st1 : St} {w1 : Wd} {h1 : Heap} {t1 : Nat} : LoopW G x d t b n st1 f st' → OK G x c w1 st1 h1 → Ext w n0 w1 st1.nx → WInv G x d c t b w n0 f st' sh n { sh with heap := h1, toks := t1 }
theorem StepS.whl {d : Nat} {t : PySem.Expr} {b : List Stmt} {n : Nat} {st st' : St} {f : Fl} (l : LoopW G x d t b n st f st') : StepS G x d (.While t b [] p) st f st' := fun c g w sh Q ok q => by
  refine wpAny_While (codeAny_whileLoop (WInv G x d c t b w st.nx f st' sh) ?_ n (.mk (t1 := sh.toks) l ok (Ext.refl ..)))
  rintro _ _ ⟨l1, ok1, ex1⟩
  rename_i m st1 w1 h1 t1
  cases l1 with
  | stop s1 => exact wpF (s1 c g w1 _ _ ok1 fun w2 h2 t2 ok2 ex2 => wpAny_execs_nil (q w2 h2 t2 _ ok2 (ex1.trans ex2) .nxt))
  | back s1 s2 =>
    refine wpF (s1 c g w1 _ _ ok1 fun w2 h2 t2 ok2 ex2 => ?_)
    rw [if_pos rfl]
    refine wpF (s2 c g w2 _ _ ok2 fun w3 h3 t3 fl ok3 ex3 hf => ?_)
    cases hf with
    | ret hv => exact q w3 h3 t3 _ ok3 ((ex1.trans ex2).trans ex3) (.ret hv)
  | turn s1 s2 l2 =>
    refine wpF (s1 c g w1 _ _ ok1 fun w2 h2 t2 ok2 ex2 => ?_)
    rw [if_pos rfl]
    refine wpF (s2 c g w2 _ _ ok2 fun w3 h3 t3 fl ok3 ex3 hf => ?_)
    cases hf
    exact ⟨_, Nat.lt_succ_self _, .mk l2 ok3 ((ex1.trans ex2).trans ex3)⟩
theorem SndS.whl {t : PySem.Expr} {b : List Stmt} {ft : CC} {f : CS} (ht : SndC G x t ft) (hb : SndB G x b f) : SndS G x (.While t b [] p) (sWhl ft f) := fun d ca hc st k r h => by
  rcases whl_some ht hb hc 200 st h with ⟨st1, s1, h1⟩ | ⟨v, st1, s1, h1⟩
  · exact .inl ⟨st1, .whl s1, h1⟩
  · exact .inr ⟨v, st1, .whl s1, h1⟩

/- an object that a loop keeps for itself -/
def Off (c : Cfg) (w : Wd) (I : Addr) : Prop := c.h₀.get? I = none ∧ I ≠ c.L ∧ (∀ o, ¬ c.X I o) ∧ (∀ o, ¬ w.D I o) ∧ (∀ e ∈ w.led, e.2.1 ≠ I)
theorem OK.off_new {c : Cfg} {w : Wd} {st : St} {h : Heap} (k : OK G x c w st h) {I : Addr} (hI : h.get? I = none) : Off c w I := by
  refine ⟨?_, fun q => ?_, fun o q => ?_, fun o q => ?_, fun e he q => ?_⟩
  · cases q : c.h₀.get? I with
    | none => rfl
    | some o => have := k.F.keep _ _ q; rw [hI] at this; cases this
  · have := k.L_in; rw [← q, hI] at this; cases this
  · have := (k.xs _ _ q).1; rw [hI] at this; cases this
  · have := (k.ds _ _ q).1; rw [hI] at this; cases this
  · have := (k.ls e he).1; rw [q, hI] at this; cases this
theorem OK.off_ext {c : Cfg} {w : Wd} {st : St} {h h' : Heap} (k : OK G x c w st h) {I : Addr} (f : Off c w I) (hs : Heap.ExtBut I h h') : OK G x c w st h' where
  F := ⟨k.F.ns.extBut hs (Ne.symm f.2.1), fun b o e => hs b o (fun q => by rw [q, f.1] at e; cases e) (k.F.keep b o e), k.F.above⟩
  xs := fun a o e => ⟨hs _ _ (fun q => f.2.2.1 o (q ▸ e)) (k.xs a o e).1, (k.xs a o e).2⟩
  ds := fun a o e => ⟨hs _ _ (fun q => f.2.2.2.1 o (q ▸ e)) (k.ds a o e).1, (k.ds a o e).2⟩
  xd := k.xd
  d0 := k.d0
  ls := fun e he => ⟨hs _ _ (f.2.2.2.2 e he) (k.ls e he).1, (k.ls e he).2⟩
  an := k.an
  kn := k.kn
  kl := k.kl
  lr := k.lr
  lm := k.lm
def Cfg.plus (c : Cfg) (N : Fact) : Cfg := { c with X := fun a o => c.X a o ∨ N a o }
theorem Good.plus {d : Nat} {c : Cfg} (g : Good G x d c) (N : Fact) : Good G x d (c.plus N) := ⟨g.below, g.K, g.T, g.hh, g.depth, g.units, g.scope, g.kind, g.locals, g.frame, g.globals, g.builtins, g.nd, g.nb, g.pg⟩
theorem OK.plus {c : Cfg} {w : Wd} {st : St} {h : Heap} (k : OK G x c w st h) {N : Fact} (f : ∀ a o, N a o → h.get? a = some o ∧ Off c w a) : OK G x (c.plus N) w st h where
  F := k.F
  xs := fun a o e => e.elim (k.xs a o) fun e => ⟨(f a o e).1, (f a o e).2.2.1⟩
  ds := k.ds
  xd := fun a o o' e => e.elim (k.xd a o o') fun e => (f a o e).2.2.2.2.1 o'
  d0 := k.d0
  ls := fun e he => by
    obtain ⟨h1, h2, h3, h4, h5⟩ := k.ls e he
    exact ⟨h1, h2, h3, fun o q => q.elim (h4 o) fun q => (f _ o q).2.2.2.2.2 e he rfl, h5⟩
  an := k.an
  kn := k.kn
  kl := k.kl
  lr := k.lr
  lm := fun i v e => by
    obtain ⟨y, val, h1, h2, h3⟩ := k.lm i v e
    exact ⟨y, val, h1, h2, h3.imp id fun ⟨q, a, o, h4, h5, h6⟩ => ⟨q, a, o, h4, .inl h5, h6⟩⟩
end
end Mine

namespace Mine
open PySem PySem.W PySem.Calls PyProof.Rows

section
variable {G : Pg} {x : Fx} {p : Pos} {c : Cfg} {w : Wd} {st : St} {h : Heap} {N : Fact}
theorem OK.back (k : OK G x (c.plus N) w st h) (hN : ∀ a o, N a o → ∀ v, o.data ≠ .cell (some v)) : OK G x c w st h where
  F := k.F
  xs := fun a o e => k.xs a o (.inl e)
  ds := k.ds
  xd := fun a o o' e => k.xd a o o' (.inl e)
  d0 := k.d0
  ls := fun e he => by
    obtain ⟨h1, h2, h3, h4, h5⟩ := k.ls e he
    exact ⟨h1, h2, h3, fun o q => h4 o (.inl q), h5⟩
  an := k.an
  kn := k.kn
  kl := k.kl
  lr := k.lr
  lm := fun i v e => by
    obtain ⟨y, val, h1, h2, h3⟩ := k.lm i v e
    exact ⟨y, val, h1, h2, h3.imp id fun ⟨q, a, o, h4, h5, h6⟩ => ⟨q, a, o, h4, h5.elim id fun n => absurd h6 (hN a o n _), h6⟩⟩
theorem OK.off_back (k : OK G x (c.plus N) w st h) {a : Addr} {o : Obj} (n : N a o) (h0 : c.h₀.get? a = none) (hX : ∀ o, ¬ c.X a o) : h.get? a = some o ∧ Off c w a :=
  ⟨(k.xs a o (.inr n)).1, h0, (k.xs a o (.inr n)).2, hX, fun o' q => k.xd a o o' (.inr n) q, fun e he q => (k.ls e he).2.2.2.1 o (.inr (q ▸ n))⟩
/-- where a loop's walk stands -/
inductive LInv {ι : Type} (G : Pg) (x : Fx) (c : Cfg) (L : Nat → ι → St → Fl → St → Prop) (It : ι → Fact → Prop) (w : Wd) (n0 : Nat) (f : Fl) (st' : St) (sh : Shared) : Nat → Shared → Prop
  | mk {n : Nat} {i : ι} {st1 : St} {w1 : Wd} {h1 : Heap} {t1 : Nat} {N : Fact} : L n i st1 f st' → OK G x c w1 st1 h1 → Ext w n0 w1 st1.nx → It i N → (∀ a o, N a o → h1.get? a = some o ∧ Off c w1 a) → LInv G x c L It w n0 f st' sh n { sh with heap := h1, toks := t1 }
/-- one turn: on with the body, or out -/
inductive Turned {ι : Type} (G : Pg) (x : Fx) (d : Nat) (b : List Stmt) (L : Nat → ι → St → Fl → St → Prop) (n : Nat) (i : ι) (st1 : St) : Fl → St → Prop
  | on {m : Nat} {st2 st' : St} {f : Fl} : StepB G x d b st1 .nxt st2 → m < n → L m i st2 f st' → Turned G x d b L n i st1 f st'
  | out {v : V} {st' : St} : StepB G x d b st1 (.ret v) st' → Turned G x d b L n i st1 (.ret v) st'
def bodyPost (R : Result → Shared → Prop) (I : Nat → Shared → Prop) (n : Nat) : Flow → Shared → Prop
  | .next, s => ∃ m, m < n ∧ I m s
  | .cont, s => ∃ m, m < n ∧ I m s
  | .brk, s => R (.ok .next) s
  | .ret v, s => R (.ok (.ret v)) s
theorem loop_run {ι : Type} {d : Nat} {tgt : PySem.Expr} {it : Value} {b : List Stmt} {T : ι → St → ι → St → Prop} {S : ι → St → Prop} {It : ι → Fact → Prop} {L : Nat → ι → St → Fl → St → Prop} {n0 : Nat} {sh : Shared}
    (head : ∀ n i st f st', L n i st f st' → (S i st ∧ f = .nxt ∧ st' = st) ∨ ∃ i' st1, T i st i' st1 ∧ Turned G x d b L n i' st1 f st')
    (cf : ∀ i N, It i N → ∀ a o, N a o → ∀ v, o.data ≠ .cell (some v))
    (nx : ∀ i st i' st1 w1 h1 t1 N, T i st i' st1 → OK G x c w1 st h1 → Ext w n0 w1 st.nx → It i N → (∀ a o, N a o → h1.get? a = some o ∧ Off c w1 a) → ∀ P : Shared → Prop,
      (∀ N' w2 h2 t2, It i' N' → (∀ a o, N' a o → ∃ o, N a o) → OK G x (c.plus N') w2 st1 h2 → Ext w1 st.nx w2 st1.nx → P { sh with heap := h2, toks := t2 }) →
      wpAny (model G.prog G.w) c.A (pyNext it) (fun r s₁ => match r with
        | none => False
        | some v => wpAny (model G.prog G.w) c.A (letOwnedTupleGo tgt it v) (fun _ s₂ => wpAny (model G.prog G.w) c.A (assign tgt c.env v) (fun _ s₃ => P s₃) (fun _ _ => False) s₂) (fun _ _ => False) s₁) (fun _ _ => False) { sh with heap := h1, toks := t1 })
    (sp : ∀ i st w1 h1 t1 N, S i st → OK G x c w1 st h1 → Ext w n0 w1 st.nx → It i N → (∀ a o, N a o → h1.get? a = some o ∧ Off c w1 a) → ∀ P : Shared → Prop, (∀ h2, OK G x c w1 st h2 → P { sh with heap := h2, toks := t1 }) →
      wpAny (model G.prog G.w) c.A (pyNext it) (fun r s₁ => match r with
        | none => P s₁
        | some _ => False) (fun _ _ => False) { sh with heap := h1, toks := t1 })
    (g : Good G x d c) {n : Nat} {f : Fl} {st' : St} {Q : Flow → Shared → Prop} {R : Result → Shared → Prop} (hR : ∀ f s, Q f s → R (.ok f) s) {s : Shared} (l : LInv G x c L It w n0 f st' sh n s)
    (q : ∀ w' h' tk fl, OK G x c w' st' h' → Ext w n0 w' st'.nx → FlR G w' f fl → Q fl { sh with heap := h', toks := tk }) :
    codeAny (model G.prog G.w) c.A (.forLoop tgt it b [] c.env) R s := by
  refine codeAny_forLoop_any (LInv G x c L It w n0 f st' sh) ?_ n l
  rintro _ _ ⟨l1, ok1, ex1, hI, off1⟩
  rename_i n1 i st w1 h1 t1 N
  rcases head _ _ _ _ _ l1 with ⟨hs, rfl, rfl⟩ | ⟨i', st1, hT, hh⟩
  · refine wpAny_mono (sp i _ w1 h1 t1 N hs ok1 ex1 hI off1 (fun s => Q .next s) fun h2 ok2 => q w1 h2 t1 _ ok2 ex1 .nxt) (fun r s₁ h => ?_) fun _ _ f => f.elim
    cases r with
    | none => exact wpAny_execs_nil (hR _ _ h)
    | some v => exact h.elim
  · refine wpAny_mono (nx i _ i' st1 w1 h1 t1 N hT ok1 ex1 hI off1 (fun s => wpAny (model G.prog G.w) c.A (execs b c.env) (bodyPost R (LInv G x c L It w n0 f st' sh) n1) (fun _ _ => False) s) fun N' w2 h2 t2 hI' sub ok2 ex2 => ?_) (fun r s₁ h => ?_) fun _ _ f => f.elim
    rotate_left
    · cases r with
      | none => exact h.elim
      | some v => exact wpAny_mono h (fun _ s h => wpAny_mono h (fun _ s h => wpAny_mono h (fun fl s h => by cases fl <;> exact h) fun _ _ f => f.elim) fun _ _ f => f.elim) fun _ _ f => f.elim
    have off4 : ∀ {w4 : Wd} {st4 : St} {h4 : Heap}, OK G x (c.plus N') w4 st4 h4 → ∀ a o, N' a o → h4.get? a = some o ∧ Off c w4 a := fun ok4 a o e => by
      obtain ⟨o', e'⟩ := sub a o e
      exact ok4.off_back e (off1 a o' e').2.1 (off1 a o' e').2.2.2.1
    cases hh with
    | on hb hm l2 =>
      refine hb (c.plus N') (g.plus _) w2 _ _ ok2 fun w4 h4 t4 fl ok4 ex4 hf => ?_
      cases hf
      exact ⟨_, hm, .mk l2 (ok4.back (cf _ _ hI')) ((ex1.trans ex2).trans ex4) hI' (off4 ok4)⟩
    | out hb =>
      refine hb (c.plus N') (g.plus _) w2 _ _ ok2 fun w4 h4 t4 fl ok4 ex4 hf => ?_
      cases hf with
      | ret hv => exact hR _ _ (q w4 h4 t4 _ (ok4.back (cf _ _ hI')) ((ex1.trans ex2).trans ex4) (.ret hv))

/- for over a range -/
inductive LoopR (G : Pg) (x : Fx) (d : Nat) (i : Nat) (b : List Stmt) (dd : Int) : Nat → Int → St → Fl → St → Prop
  | stop {a : Int} {st : St} : LoopR G x d i b dd 0 a st .nxt st
  | back {n : Nat} {a : Int} {st st' : St} {l : List (Option V)} {v : V} : setL st.lm i (.int a) = some l → StepB G x d b ⟨l, st.hp, st.nx⟩ (.ret v) st' → LoopR G x d i b dd (n + 1) a st (.ret v) st'
  | turn {n : Nat} {a : Int} {st st2 st' : St} {l : List (Option V)} {f : Fl} : setL st.lm i (.int a) = some l → StepB G x d b ⟨l, st.hp, st.nx⟩ .nxt st2 → LoopR G x d i b dd n (a + dd) st2 f st' → LoopR G x d i b dd (n + 1) a st f st'
theorem forR_some {i : Nat} {b : List Stmt} {f : CS} {dd : Int} (hb : SndB G x b f) {d : Nat} {ca : Ca} (hc : SndCa G d ca) {k : St → RR} {r : V × Hp × Nat} :
    ∀ n a st, forR ca i f k dd n a st = some r → Outs (LoopR G x d i b dd n a st) k r
  | 0, a, st, h => .inl ⟨st, .stop, h⟩
  | n + 1, a, st, h => by
    have h0 : put i (.int a) st (fun st => f ca st (forR ca i f k dd n (iadd a dd))) = some r := h
    obtain ⟨l, hl, h1⟩ := put_some h0
    rw [iadd_eq] at h1
    rcases hb d ca hc _ _ r h1 with ⟨st2, s2, h2⟩ | ⟨v, st2, s2, h2⟩
    · rcases forR_some hb hc n _ st2 h2 with ⟨st3, s3, h3⟩ | ⟨v, st3, s3, h3⟩
      · exact .inl ⟨st3, .turn hl s2 s3, h3⟩
      · exact .inr ⟨v, st3, .turn hl s2 s3, h3⟩
    · exact .inr ⟨v, st2, .back hl s2, h2⟩

abbrev RI (a left step : Int) : Obj := { cls := .type "range_iterator", dict := none, data := .fields #[rawInt a, rawInt left, rawInt step], slots := #[] }
theorem LoopR.run {d : Nat} {i : Nat} {y : Str} {py : Pos} {b : List Stmt} {dd : Int} {n : Nat} {a : Int} {f : Fl} {st' : St} {it : Addr} {sh : Shared} {Q : Flow → Shared → Prop} {R : Result → Shared → Prop} (hR : ∀ f s, Q f s → R (.ok f) s) (hy : x.names[i]? = some y) (hk : x.scope.names.lookup y = some .local)
    (l : LoopR G x d i b dd n a st f st') (g : Good G x d c) (ok : OK G x c w st sh.heap) (hit : IsRangeIter sh.heap it a (n : Int) dd) (off : Off c w it)
    (q : ∀ w' h' tk fl, OK G x c w' st' h' → Ext w st.nx w' st'.nx → FlR G w' f fl → Q fl { sh with heap := h', toks := tk }) :
    codeAny (model G.prog G.w) c.A (.forLoop (.Name y py) (.ref it) b [] c.env) R sh := by
  refine loop_run (ι := Nat × Int) (n0 := st.nx) (sh := sh) (T := fun j st j' st1 => ∃ m a l, j = (m + 1, a) ∧ j' = (m, a + dd) ∧ setL st.lm i (.int a) = some l ∧ st1 = ⟨l, st.hp, st.nx⟩) (S := fun j _ => ∃ a, j = (0, a)) (It := fun j N => N = one it (RI j.2 (j.1 : Nat) dd)) (L := fun n j st f st' => n = j.1 ∧ LoopR G x d i b dd j.1 j.2 st f st')
    ?head ?cf ?nx ?sp g hR (LInv.mk (i := (n, a)) (t1 := sh.toks) ⟨rfl, l⟩ ok (Ext.refl ..) rfl fun a o e => by obtain ⟨rfl, rfl⟩ := e; exact ⟨hit, off⟩) q
  case head =>
    rintro _ ⟨m, a⟩ st f st' ⟨rfl, l⟩
    cases l with
    | stop => exact .inl ⟨⟨_, rfl⟩, rfl, rfl⟩
    | back hl s2 => exact .inr ⟨_, _, ⟨_, _, _, rfl, rfl, hl, rfl⟩, .out s2⟩
    | turn hl s2 l2 => exact .inr ⟨_, _, ⟨_, _, _, rfl, rfl, hl, rfl⟩, .on s2 (Nat.lt_succ_self _) ⟨rfl, l2⟩⟩
  case cf =>
    rintro _ _ rfl a o ⟨_, rfl⟩ v q
    cases q
  case nx =>
    rintro _ st _ _ w1 h1 t1 _ ⟨m, a, l, rfl, rfl, hl, rfl⟩ ok1 ex1 rfl off1 P hP
    obtain ⟨hit1, o1⟩ := off1 _ _ ⟨rfl, rfl⟩
    refine wpAny_pyNext_range_item hit1 (Int.natCast_pos.mpr (Nat.succ_pos m)) fun h2 hit2 hs => wpAny_pure (wpAny_assign_Name ?_)
    have hit2 : IsRangeIter h2 it (a + dd) (m : Int) dd := by
      have e : ((m + 1 : Nat) : Int) - 1 = (m : Int) := by omega
      rw [← e]; exact hit2
    exact store_loc (c := c.plus (one it (RI (a + dd) (m : Nat) dd))) (s := { sh with heap := h2, toks := t1 + 1 }) (g.plus _) hy hk ((ok1.off_ext o1 hs.extBut).plus fun a o e => by obtain ⟨rfl, rfl⟩ := e; exact ⟨hit2, o1⟩) (VR.of (.int a t1)) hl fun h3 t3 ok3 =>
      hP _ _ h3 t3 rfl (fun _ _ e => ⟨_, e.1, rfl⟩) ok3 (Ext.store ..)
  case sp =>
    rintro _ st w1 h1 t1 _ ⟨a, rfl⟩ ok1 ex1 rfl off1 P hP
    obtain ⟨hit1, o1⟩ := off1 _ _ ⟨rfl, rfl⟩
    exact wpAny_pyNext_range_end g.hh hit1 (Int.le_refl _) fun h2 he => hP h2 (ok1.off_ext o1 he)
end
end Mine

namespace Mine
open PySem PySem.W PySem.Calls PyProof.Rows

theorem small_lt60 {n : Nat} (h : small n = true) : n < 2 ^ 60 := Nat.lt_of_le_of_lt (Nat.le_of_ble_eq_true h) (by decide)
theorem small_up {m n : Nat} (hm : m < 2 ^ 60) (hn : n < 2 ^ 60) : Builtin.Range.small (m : Int) (n : Int) 1 = true := small_one (by omega) (by omega) (by omega) (by omega)
theorem size_up (m n : Nat) : Builtin.Range.rangeSize (m : Int) (n : Int) 1 = ((n - m : Nat) : Int) := by
  rw [rangeSize_one]
  split <;> omega
theorem size_down (n : Nat) : Builtin.Range.rangeSize (n : Int) (-1) (-1) = ((n + 1 : Nat) : Int) := by
  unfold Builtin.Range.rangeSize
  rw [if_neg (by decide), if_pos (by omega)]
  have : (-(-1) : Int) = 1 := by decide
  rw [this, Int.ediv_one]
  omega
theorem small_down {n : Nat} (hn : n < 2 ^ 60) : Builtin.Range.small (n : Int) (-1) (-1) = true := by
  unfold Builtin.Range.small
  rw [size_down]
  simp only [Builtin.Range.rangeFitsLong, Bool.and_eq_true, Bool.or_eq_true, decide_eq_true_eq, beq_iff_eq, show ¬ ((-1 : Int) > 0) by decide, if_false]
  omega
theorem small_none : Builtin.Range.small (-1) (-1) (-1) = true := by decide
theorem size_none : Builtin.Range.rangeSize (-1) (-1) (-1) = 0 := by decide
theorem ieq_true {a b : Int} (h : ieq a b = true) : a = b := by
  cases a <;> cases b <;> first | cases h | (rw [Nat.eq_of_beq_eq_true h])
section
variable {G : Pg} {x : Fx} {p : Pos} {c : Cfg} {w : Wd} {st : St} {h : Heap} {N : Fact}
abbrev RO (a b c : Int) (t u v : Tok) : Obj := { cls := .type "range", dict := none, data := .fields #[.int a t, .int b u, .int c v], slots := #[] }
/-- the ranges that are asked for -/
inductive RngV : List Value → Nat → Int → Int → Prop
  | r1 {n : Nat} {t : Tok} : n < 2 ^ 60 → RngV [.int (.ofNat n) t] n 0 1
  | r2 {m n : Nat} {t u : Tok} : m < 2 ^ 60 → n < 2 ^ 60 → RngV [.int (.ofNat m) t, .int (.ofNat n) u] (n - m) (.ofNat m) 1
  | r3 {n : Nat} {t u v : Tok} : n < 2 ^ 60 → RngV [.int (.ofNat n) t, .int (-1) u, .int (-1) v] (n + 1) (.ofNat n) (-1)
  | r0 {t u v : Tok} : RngV [.int (-1) t, .int (-1) u, .int (-1) v] 0 (-1) (-1)
theorem rng_v {nx : Nat} {vs : List V} {vals : List Value} {n : Nat} {a dd : Int} (e : rng vs = some (n, a, dd)) (hv : VRs G w nx vs vals) : RngV vals n a dd := by
  cases hv with
  | nil => cases e
  | cons h1 hv => cases hv with
    | nil =>
      obtain ⟨m, rfl, e1⟩ := asN_some e
      obtain ⟨e2, e3⟩ := yn_none e1
      cases e3
      obtain ⟨t, rfl⟩ := h1.int_
      exact .r1 (small_lt60 e2)
    | cons h2 hv => cases hv with
      | nil =>
        obtain ⟨m, rfl, e1⟩ := asN_some e
        obtain ⟨j, rfl, e2⟩ := asN_some e1
        obtain ⟨e3, e4⟩ := yn_none e2
        obtain ⟨e5, e6⟩ := yn_none e4
        cases e6
        obtain ⟨t, rfl⟩ := h1.int_
        obtain ⟨t', rfl⟩ := h2.int_
        exact .r2 (small_lt60 e5) (small_lt60 e3)
      | cons h3 hv => cases hv with
        | cons _ _ => cases e
        | nil =>
          obtain ⟨i, rfl, e1⟩ := asI_some e
          obtain ⟨j, rfl, e2⟩ := asI_some e1
          obtain ⟨k, rfl, e3⟩ := asI_some e2
          obtain ⟨e4, e5⟩ := yn_none e3
          obtain ⟨e6, e7⟩ := yn_none e5
          cases ieq_true e4
          cases ieq_true e6
          obtain ⟨t, rfl⟩ := h1.int_
          obtain ⟨t', rfl⟩ := h2.int_
          obtain ⟨t'', rfl⟩ := h3.int_
          cases i with
          | ofNat m =>
            obtain ⟨e8, e9⟩ := yn_none (b := small m) e7
            cases e9
            exact .r3 (small_lt60 e8)
          | negSucc m => cases m with
            | zero => cases e7; exact .r0
            | succ m => cases e7
theorem range_call {nx : Nat} {vs : List V} {vals : List Value} {n : Nat} {a dd : Int} (e : rng vs = some (n, a, dd)) (hv : VRs G w nx vs vals) {A : Around} {s : Shared} {Q : Value → Shared → Prop}
    (q : ∀ b t u v tk, Builtin.Range.small a b dd = true → Builtin.Range.rangeSize a b dd = (n : Int) → Q (.ref s.heap.objs.size) { s with heap := s.heap.push (RO a b dd t u v), toks := tk }) :
    wpAny (model G.prog G.w) A (call (.type "range") vals) Q (fun _ _ => False) s := by
  cases rng_v e hv with
  | r1 h => exact call_range_1 (q _ _ _ _ _ (small_up (m := 0) (by decide) h) (size_up 0 _))
  | r2 h k => exact call_range_2 (q _ _ _ _ _ (small_up h k) (size_up _ _))
  | r3 h => exact call_range_3 (by decide) (q _ _ _ _ _ (small_down h) (size_down _)) (Or.inl (PyProof.noPylong_small (by decide)))
  | r0 => exact call_range_3 (by decide) (q _ _ _ _ _ small_none size_none) (Or.inl (PyProof.noPylong_small (by decide)))
theorem StepS.forR {d : Nat} {i : Nat} {y : Str} {py pn pc : Pos} {e : PySem.Expr} {es : List PySem.Expr} {b : List Stmt} {st1 : St} {vs : List V} {n : Nat} {aa dd : Int} {fl : Fl} {st2 : St} (hy : x.names[i]? = some y) (hk : x.scope.names.lookup y = some .local) (hx : x.scope.names.lookup (Str.ofString "range") = some .globalImplicit)
    (pl : ∀ i ∈ e :: es, plE i = true) (s1 : StepR G x d (e :: es) st vs st1) (hr : rng vs = some (n, aa, dd)) (l : LoopR G x d i b dd n aa st1 fl st2) : StepS G x d (.For (.Name y py) (.Call (.Name (Str.ofString "range") pn) (e :: es) [] pc) b [] p) st fl st2 := fun c g w sh Q ok q => by
  refine wpAny_For (Call_ (load_blt g ok hx g.pg.range Boot.«range» (by decide) (by decide) ?_) (call_eval rfl))
  refine PySem.callWith_type (plain_list pl) (args_run (pl e (.head _)) (s1 c g pc w sh _ ok fun w1 h1 t1 vals ok1 ex1 hv1 => ?_))
  refine range_call hr hv1 fun b0 t u v tk hs hz => ?_
  refine wpAny_pyIter_range (Heap.get?_push_size _ rfl) hs ?_
  have ok2 := ok1.keep (push_keep h1 (RO aa b0 dd t u v))
  have iR := Heap.get?_push_size (h1.push (RO aa b0 dd t u v)) (o := RI aa (Builtin.Range.rangeSize aa b0 dd) dd) rfl
  rw [hz] at iR
  have off := ok2.off_new (fresh_none (h1.push (RO aa b0 dd t u v)))
  have ok3 := ok2.keep (push_keep (h1.push (RO aa b0 dd t u v)) (RI aa n dd))
  show codeAny _ _ _ _ { sh with heap := (h1.push (RO aa b0 dd t u v)).push (RI aa (Builtin.Range.rangeSize aa b0 dd) dd), toks := tk }
  rw [hz]
  exact l.run (fun _ _ h => h) hy hk g ok3 iR off fun w2 h2 t2 fl2 ok3 ex3 hf => q w2 h2 t2 fl2 ok3 (ex1.trans ex3) hf
theorem SndS.forR {i : Nat} {y : Str} {py pn pc : Pos} {e : PySem.Expr} {es : List PySem.Expr} {fs : List CE} {b : List Stmt} {f : CS} (hy : x.names[i]? = some y) (hk : x.scope.names.lookup y = some .local) (hx : x.scope.names.lookup (Str.ofString "range") = some .globalImplicit)
    (a : SndR G x (e :: es) fs) (hb : SndB G x b f) : SndS G x (.For (.Name y py) (.Call (.Name (Str.ofString "range") pn) (e :: es) [] pc) b [] p) (sForR i fs f) := fun d ca hc st k r h => by
  obtain ⟨vs, st1, s1, h1⟩ := a.snd d ca hc st _ r h
  obtain ⟨⟨n, aa, dd⟩, hr, h2⟩ := bo_some h1
  rcases forR_some hb hc n aa st1 h2 with ⟨st2, s2, h3⟩ | ⟨v, st2, s2, h3⟩
  · exact .inl ⟨st2, .forR hy hk hx a.pl s1 hr s2, h3⟩
  · exact .inr ⟨v, st2, .forR hy hk hx a.pl s1 hr s2, h3⟩
end
end Mine

namespace Mine
open PySem PySem.W PySem.Calls PyProof.Rows

theorem vnth_none {fa : Nat → Addr} {D : Fact} {xs : List V} {vs : List Value} {n : Nat} (h : VFs fa D xs vs) : nth xs n = none → vs[n]? = none :=
  VFs.ind (P := fun xs vs => ∀ n, Mine.nth xs n = none → vs[n]? = none) (fun _ _ => rfl) (fun _ _ ih n e => by
    cases n with
    | zero => cases e
    | succ n => exact ih n e) h n
section
variable {G : Pg} {x : Fx} {p : Pos} {c : Cfg} {w : Wd} {st : St} {h : Heap} {N : Fact}
theorem OK.off_ext2 {h' : Heap} (k : OK G x c w st h) {I J : Addr} (f : Off c w I) (f' : Off c w J) (hs : ∀ b o, b ≠ I → b ≠ J → h.get? b = some o → h'.get? b = some o) : OK G x c w st h' where
  F := by
    refine ⟨?_, fun b o e => hs b o (fun q => by rw [q, f.1] at e; cases e) (fun q => by rw [q, f'.1] at e; cases e) (k.F.keep b o e), k.F.above⟩
    exact k.F.ns.at fun o e => hs _ o (Ne.symm f.2.1) (Ne.symm f'.2.1) e
  xs := fun a o e => ⟨hs _ _ (fun q => f.2.2.1 o (q ▸ e)) (fun q => f'.2.2.1 o (q ▸ e)) (k.xs a o e).1, (k.xs a o e).2⟩
  ds := fun a o e => ⟨hs _ _ (fun q => f.2.2.2.1 o (q ▸ e)) (fun q => f'.2.2.2.1 o (q ▸ e)) (k.ds a o e).1, (k.ds a o e).2⟩
  xd := k.xd
  d0 := k.d0
  ls := fun e he => ⟨hs _ _ (f.2.2.2.2 e he) (f'.2.2.2.2 e he) (k.ls e he).1, (k.ls e he).2⟩
  an := k.an
  kn := k.kn
  kl := k.kl
  lr := k.lr
  lm := k.lm

/- for over a list -/
inductive LoopL (G : Pg) (x : Fx) (d : Nat) (a : V) (B : Nat → V → St → St → Prop) (b : List Stmt) : Nat → Nat → St → Fl → St → Prop
  | stop {n i : Nat} {st : St} {xs : List V} : items a st.hp = some xs → nth xs i = none → LoopL G x d a B b (n + 1) i st .nxt st
  | back {n i : Nat} {st st1 st' : St} {xs : List V} {v u : V} : items a st.hp = some xs → nth xs i = some v → B i v st st1 → StepB G x d b st1 (.ret u) st' → LoopL G x d a B b (n + 1) i st (.ret u) st'
  | turn {n i : Nat} {st st1 st2 st' : St} {xs : List V} {v : V} {f : Fl} : items a st.hp = some xs → nth xs i = some v → B i v st st1 → StepB G x d b st1 .nxt st2 → LoopL G x d a B b n (i + 1) st2 f st' → LoopL G x d a B b (n + 1) i st f st'
theorem LoopL.items {d : Nat} {a : V} {B : Nat → V → St → St → Prop} {b : List Stmt} {n i : Nat} {f : Fl} {st' : St} (l : LoopL G x d a B b n i st f st') : ∃ xs, items a st.hp = some xs := by
  cases l <;> exact ⟨_, by assumption⟩
theorem forL_some {s : Nat → V → St → (St → RR) → RR} {a : V} {B : Nat → V → St → St → Prop} (hs : ∀ n v st k r, s n v st k = some r → ∃ st1, B n v st st1 ∧ k st1 = some r) {b : List Stmt} {f : CS} (hb : SndB G x b f) {d : Nat} {ca : Ca} (hc : SndCa G d ca) {k : St → RR} {r : V × Hp × Nat} :
    ∀ n i st, forL ca s a f k n i st = some r → Outs (LoopL G x d a B b n i st) k r
  | 0, i, st, h => by cases h
  | n + 1, i, st, h => by
    have h0 : bo (Mine.items a st.hp) (fun xs => @Option.rec V (fun _ => RR) (k st) (fun v => s i v st fun st => f ca st (forL ca s a f k n (Nat.succ i))) (nth xs i)) = some r := h
    obtain ⟨xs, hx, h1⟩ := bo_some h0
    cases q : nth xs i with
    | none =>
      rw [q] at h1
      exact .inl ⟨st, .stop hx q, h1⟩
    | some v =>
      rw [q] at h1
      obtain ⟨st1, hB, h2⟩ := hs i v st _ r h1
      rcases hb d ca hc _ _ r h2 with ⟨st2, s2, h3⟩ | ⟨v, st2, s2, h3⟩
      · rcases forL_some hs hb hc n _ st2 h3 with ⟨st3, s3, h4⟩ | ⟨v, st3, s3, h4⟩
        · exact .inl ⟨st3, .turn hx q hB s2 s3, h4⟩
        · exact .inr ⟨v, st3, .turn hx q hB s2 s3, h4⟩
      · exact .inr ⟨v, st2, .back hx q hB s2, h3⟩
def BL (i : Nat) : Nat → V → St → St → Prop := fun _ v st st1 => ∃ l, setL st.lm i v = some l ∧ st1 = ⟨l, st.hp, st.nx⟩
/-- one turn's begin -/
def BT (a : V) (B : Nat → V → St → St → Prop) (i : Nat) (st : St) (i' : Nat) (st1 : St) : Prop := i' = i + 1 ∧ ∃ xs v, Mine.items a st.hp = some xs ∧ Mine.nth xs i = some v ∧ B i v st st1
def BS (a : V) (i : Nat) (st : St) : Prop := ∃ xs, Mine.items a st.hp = some xs ∧ Mine.nth xs i = none
theorem LoopL.head {d : Nat} {a : V} {B : Nat → V → St → St → Prop} {b : List Stmt} (n i : Nat) (st : St) (f : Fl) (st' : St) (l : LoopL G x d a B b n i st f st') : (BS a i st ∧ f = .nxt ∧ st' = st) ∨ ∃ i' st1, BT a B i st i' st1 ∧ Turned G x d b (LoopL G x d a B b) n i' st1 f st' := by
  cases l with
  | stop hx hn => exact .inl ⟨⟨_, hx, hn⟩, rfl, rfl⟩
  | back hx hn hB s2 => exact .inr ⟨_, _, ⟨rfl, _, _, hx, hn, hB⟩, .out s2⟩
  | turn hx hn hB s2 l2 => exact .inr ⟨_, _, ⟨rfl, _, _, hx, hn, hB⟩, .on s2 (Nat.lt_succ_self _) l2⟩
theorem BT.item {a : V} {B : Nat → V → St → St → Prop} {i i' : Nat} {st1 : St} {al n0 : Nat} {w1 : Wd} {h1 : Heap} (t : BT a B i st i' st1) (ok1 : OK G x c w1 st h1) (hv : VR G w n0 a (.ref al)) (ex1 : Ext w n0 w1 st.nx) :
    i' = i + 1 ∧ ∃ v vs n1 vv, B i v st st1 ∧ h1.get? al = some (LO vs n1) ∧ vs.toArray[i]? = some vv ∧ VF G.fa w1.D v vv := by
  obtain ⟨e, xs, v, hx, hn, hB⟩ := t
  obtain ⟨al', vs, n1, e1, g1, v1⟩ := ok1.items (hv.ext ex1) hx
  cases e1
  obtain ⟨vv, hvv, hvf⟩ := v1.nth hn
  exact ⟨e, v, vs, n1, vv, hB, g1, by rw [List.getElem?_toArray]; exact hvv, hvf⟩
theorem BS.none {a : V} {i : Nat} {al n0 : Nat} {w1 : Wd} {h1 : Heap} (t : BS a i st) (ok1 : OK G x c w1 st h1) (hv : VR G w n0 a (.ref al)) (ex1 : Ext w n0 w1 st.nx) : ∃ vs n1, h1.get? al = some (LO vs n1) ∧ vs.toArray[i]? = Option.none := by
  obtain ⟨xs, hx, hn⟩ := t
  obtain ⟨al', vs, n1, e1, g1, v1⟩ := ok1.items (hv.ext ex1) hx
  cases e1
  exact ⟨vs, n1, g1, by rw [List.getElem?_toArray]; exact vnth_none v1 hn⟩
theorem LoopL.runL {d : Nat} {a : V} {al : Addr} {k : Nat} {y : Str} {py : Pos} {b : List Stmt} {n i : Nat} {f : Fl} {st' : St} {it : Addr} {sh : Shared} {Q : Flow → Shared → Prop} {R : Result → Shared → Prop} (hR : ∀ f s, Q f s → R (.ok f) s) (hy : x.names[k]? = some y) (hk : x.scope.names.lookup y = some .local)
    (l : LoopL G x d a (BL k) b n i st f st') (g : Good G x d c) (ok : OK G x c w st sh.heap) (hv : VR G w st.nx a (.ref al)) (hit : sh.heap.IsListIter it al i) (off : Off c w it)
    (q : ∀ w' h' tk fl, OK G x c w' st' h' → Ext w st.nx w' st'.nx → FlR G w' f fl → Q fl { sh with heap := h', toks := tk }) :
    codeAny (model G.prog G.w) c.A (.forLoop (.Name y py) (.ref it) b [] c.env) R sh := by
  obtain ⟨io, hio, ci, di⟩ := hit
  refine loop_run (n0 := st.nx) (sh := sh) (T := BT a (BL k)) (S := BS a) (It := fun j N => ∃ io : Obj, N = one it io ∧ io.cls = .type "list_iterator" ∧ io.data = .fields #[.ref al, .int j 0]) (L := LoopL G x d a (BL k) b)
    LoopL.head ?cf ?nx ?sp g hR (LInv.mk (i := i) (t1 := sh.toks) l ok (Ext.refl ..) ⟨io, rfl, ci, di⟩ fun a o e => by obtain ⟨rfl, rfl⟩ := e; exact ⟨hio, off⟩) q
  case cf =>
    rintro _ _ ⟨io, rfl, _, di⟩ a o ⟨_, rfl⟩ v q
    rw [di] at q; cases q
  case nx =>
    rintro i1 st _ st1 w1 h1 t1 _ t ok1 ex1 ⟨io, rfl, ci, di⟩ off1 P hP
    obtain ⟨hit1, o1⟩ := off1 _ _ ⟨rfl, rfl⟩
    obtain ⟨rfl, v, vs, n1, vv, ⟨l, hl, rfl⟩, g1, hvv, hvf⟩ := t.item ok1 hv ex1
    refine wpAny_pyNext_list_item ⟨io, hit1, ci, di⟩ ⟨_, g1, rfl, _, rfl⟩ hvv fun h2 ⟨io2, hio2, ci2, di2⟩ hs => wpAny_pure (wpAny_assign_Name ?_)
    exact store_loc (c := c.plus (one it io2)) (s := { sh with heap := h2, toks := t1 }) (g.plus _) hy hk ((ok1.off_ext o1 (Heap.SameBut.extBut hs)).plus fun a o e => by obtain ⟨rfl, rfl⟩ := e; exact ⟨hio2, o1⟩) (VR.of hvf) hl fun h3 t3 ok3 =>
      hP _ _ h3 t3 ⟨io2, rfl, ci2, di2⟩ (fun _ _ e => ⟨_, e.1, rfl⟩) ok3 (Ext.store ..)
  case sp =>
    rintro i1 st w1 h1 t1 _ t ok1 ex1 ⟨io, rfl, ci, di⟩ off1 P hP
    obtain ⟨hit1, o1⟩ := off1 _ _ ⟨rfl, rfl⟩
    obtain ⟨vs, n1, g1, hvv⟩ := t.none ok1 hv ex1
    exact wpAny_pyNext_list_end g.hh ⟨io, hit1, ci, di⟩ ⟨_, g1, rfl, _, rfl⟩ hvv fun h2 he => hP h2 (ok1.off_ext o1 he)
theorem SndS.forL {i : Nat} {y : Str} {py : Pos} {e : PySem.Expr} {fe : CE} {b : List Stmt} {f : CS} (hy : x.names[i]? = some y) (hk : x.scope.names.lookup y = some .local) (hs : ∀ v env, foldedSetIterable e env v = pure v)
    (a : SndE G x e fe) (hb : SndB G x b f) : SndS G x (.For (.Name y py) e b [] p) (sForL i fe f) := fun d ca hc st k r h => by
  obtain ⟨v, st1, s1, h1⟩ := a.snd d ca hc st _ r h
  have run : ∀ fl st2, LoopL G x d v (BL i) b 200 0 st1 fl st2 → StepS G x d (.For (.Name y py) e b [] p) st fl st2 := fun fl st2 l c g w sh Q ok q => by
    refine wpAny_For (s1 c g w sh _ ok fun w1 h1 t1 val ok1 ex1 hv1 => ?_) (fun v => hs v _)
    obtain ⟨xs, hx⟩ := l.items
    obtain ⟨al, vs, n1, rfl, g1, v1⟩ := ok1.items hv1 hx
    refine wpAny_pyIter_list ⟨_, g1, rfl, _, rfl⟩ ?_
    refine l.runL (fun _ _ h => h) hy hk g (ok1.keep (push_keep h1 _)) hv1 ⟨_, Heap.get?_push_size _ rfl, rfl, rfl⟩ (ok1.off_new (fresh_none _)) fun w2 h2 t2 fl2 ok3 ex3 hf => ?_
    exact q w2 h2 t2 fl2 ok3 (ex1.trans ex3) hf
  rcases forL_some (B := BL i) (fun n v st k r h => by obtain ⟨l, hl, h2⟩ := put_some h; exact ⟨_, ⟨l, hl, rfl⟩, h2⟩) hb hc 200 0 st1 h1 with ⟨st2, s2, h3⟩ | ⟨v, st2, s2, h3⟩
  · exact .inl ⟨st2, run _ _ s2, h3⟩
  · exact .inr ⟨v, st2, run _ _ s2, h3⟩
end
end Mine

namespace Mine
open PySem PySem.W PySem.Calls PyProof.Rows

section
variable {G : Pg} {x : Fx} {p : Pos} {c : Cfg} {w : Wd} {st : St} {h : Heap} {N : Fact}
abbrev EO (it : Addr) (i : Int) (old : Value) : Obj := { cls := .type "enumerate", dict := none, data := .fields #[.none, .bool false, .ref it, rawInt i, .none, old], slots := #[] }
def two (a : Addr) (o : Obj) (b : Addr) (p : Obj) : Fact := fun z q => (z = a ∧ q = o) ∨ (z = b ∧ q = p)
def BE (i k : Nat) : Nat → V → St → St → Prop := fun n v st st1 => ∃ l l', setL st.lm i (.int (.ofNat n)) = some l ∧ setL l k v = some l' ∧ st1 = ⟨l', st.hp, st.nx⟩
theorem LoopL.runE {d : Nat} {a : V} {al : Addr} {k j : Nat} {y z : Str} {py pz pt : Pos} {b : List Stmt} {n i : Nat} {f : Fl} {st' : St} {en it : Addr} {old : Value} {sh : Shared} {Q : Flow → Shared → Prop} {R : Result → Shared → Prop} (hR : ∀ f s, Q f s → R (.ok f) s) (hy : x.names[k]? = some y) (hk : x.scope.names.lookup y = some .local)
    (hz : x.names[j]? = some z) (hj : x.scope.names.lookup z = some .local) (hne : en ≠ it)
    (l : LoopL G x d a (BE k j) b n i st f st') (g : Good G x d c) (ok : OK G x c w st sh.heap) (hv : VR G w st.nx a (.ref al)) (hen : IsEnum sh.heap en it i old) (hit : sh.heap.IsListIter it al i) (off : Off c w it) (offe : Off c w en)
    (q : ∀ w' h' tk fl, OK G x c w' st' h' → Ext w st.nx w' st'.nx → FlR G w' f fl → Q fl { sh with heap := h', toks := tk }) :
    codeAny (model G.prog G.w) c.A (.forLoop (.Tuple [.Name y py, .Name z pz] 0 pt) (.ref en) b [] c.env) R sh := by
  obtain ⟨io, hio, ci, di⟩ := hit
  refine loop_run (n0 := st.nx) (sh := sh) (T := BT a (BE k j)) (S := BS a) (It := fun m N => ∃ (io : Obj) (old : Value), N = two en (EO it (m : Nat) old) it io ∧ io.cls = .type "list_iterator" ∧ io.data = .fields #[.ref al, .int m 0]) (L := LoopL G x d a (BE k j) b)
    LoopL.head ?cf ?nx ?sp g hR (LInv.mk (i := i) (t1 := sh.toks) l ok (Ext.refl ..) ⟨io, old, rfl, ci, di⟩ fun a o e => ?off) q
  case off =>
    rcases e with ⟨rfl, rfl⟩ | ⟨rfl, rfl⟩
    · exact ⟨hen, offe⟩
    · exact ⟨hio, off⟩
  case cf =>
    rintro _ _ ⟨io, old, rfl, _, di⟩ a o e v q
    rcases e with ⟨_, rfl⟩ | ⟨_, rfl⟩
    · cases q
    · rw [di] at q; cases q
  case nx =>
    rintro i1 st _ st1 w1 h1 t1 _ t ok1 ex1 ⟨io, old, rfl, ci, di⟩ off1 P hP
    obtain ⟨hen1, o2⟩ := off1 _ _ (.inl ⟨rfl, rfl⟩)
    obtain ⟨hit1, o1⟩ := off1 _ _ (.inr ⟨rfl, rfl⟩)
    obtain ⟨rfl, v, vs, n1, vv, ⟨l, l', hl1, hl2, rfl⟩, g1, hvv, hvf⟩ := t.item ok1 hv ex1
    refine wpAny_pyNext_enum_item hen1 ⟨io, hit1, ci, di⟩ ⟨_, g1, rfl, _, rfl⟩ hvv hne fun h2 heo hit2 ht2 hz2 hk2 => ?_
    refine wpAny_letOwnedTupleGo_enum heo fun h3 he3 (hs3 : Heap.SameBut en h2 h3) => ?_
    refine wpAny_assign_Tuple (items := #[_, _]) g.hh ⟨_, (hs3.2 _ (Nat.ne_of_gt (Heap.lt_size hen1))).trans ht2, rfl, _, rfl⟩ rfl rfl fun h4 hx4 => ?_
    have hx4 : Keep h3 h4 := ExtBut.keep hx4
    obtain ⟨io2, g3, k3, d3⟩ := (hit2.extBut hs3.extBut (Ne.symm hne))
    have e : (i1 : Int) + 1 = ((i1 + 1 : Nat) : Int) := rfl
    rw [e] at he3
    have ok4 := ((((ok1.off_ext2 o2 o1 hk2).off_ext o2 hs3.extBut).keep hx4).plus (N := two en (EO it ((i1 + 1 : Nat) : Int) vv) it io2) fun a o e => by
      rcases e with ⟨rfl, rfl⟩ | ⟨rfl, rfl⟩
      · exact ⟨hx4 _ _ he3, o2⟩
      · exact ⟨hx4 _ _ g3, o1⟩)
    exact ord2 (assign_Name (store_loc (c := c.plus (two en (EO it ((i1 + 1 : Nat) : Int) vv) it io2)) (s := { sh with heap := h4, toks := t1 + 1 }) (g.plus _) hy hk ok4 (VR.of (.int _ _)) hl1 fun h5 t5 ok5 =>
      assign_Name (store_loc (c := c.plus (two en (EO it ((i1 + 1 : Nat) : Int) vv) it io2)) (s := { sh with heap := h5, toks := t5 }) (g.plus _) hz hj ok5 ((VR.of hvf : VR G w1 st.nx _ _).ext (Ext.store ..)) hl2 fun h6 t6 ok6 =>
        hP _ _ h6 t6 ⟨io2, vv, rfl, k3, d3⟩ (fun a o e => e.elim (fun e => ⟨_, .inl ⟨e.1, rfl⟩⟩) fun e => ⟨_, .inr ⟨e.1, rfl⟩⟩) ok6 ((Ext.store ..).trans (Ext.store ..)))))
  case sp =>
    rintro i1 st w1 h1 t1 _ t ok1 ex1 ⟨io, old, rfl, ci, di⟩ off1 P hP
    obtain ⟨hen1, o2⟩ := off1 _ _ (.inl ⟨rfl, rfl⟩)
    obtain ⟨hit1, o1⟩ := off1 _ _ (.inr ⟨rfl, rfl⟩)
    obtain ⟨vs, n1, g1, hvv⟩ := t.none ok1 hv ex1
    exact wpAny_pyNext_enum_end g.hh hen1 ⟨io, hit1, ci, di⟩ ⟨_, g1, rfl, _, rfl⟩ hvv fun h2 he => hP h2 (ok1.off_ext o1 he)
theorem SndS.forE {i k : Nat} {y z : Str} {py pz pt pn pc : Pos} {e : PySem.Expr} {fe : CE} {b : List Stmt} {f : CS} (hy : x.names[i]? = some y) (hk : x.scope.names.lookup y = some .local) (hz : x.names[k]? = some z) (hj : x.scope.names.lookup z = some .local)
    (hx : x.scope.names.lookup (Str.ofString "enumerate") = some .globalImplicit)
    (a : SndE G x e fe) (hb : SndB G x b f) : SndS G x (.For (.Tuple [.Name y py, .Name z pz] 0 pt) (.Call (.Name (Str.ofString "enumerate") pn) [e] [] pc) b [] p) (sForE i k fe f) := fun d ca hc st kk r h => by
  obtain ⟨v, st1, s1, h1⟩ := a.snd d ca hc st _ r h
  have run : ∀ fl st2, LoopL G x d v (BE i k) b 200 0 st1 fl st2 → StepS G x d (.For (.Tuple [.Name y py, .Name z pz] 0 pt) (.Call (.Name (Str.ofString "enumerate") pn) [e] [] pc) b [] p) st fl st2 := fun fl st2 l c g w sh Q ok q => by
    refine wpAny_For (Call_ (load_blt g ok hx g.pg.enumerate Boot.«enumerate» (by decide) (by decide) ?_) (call_eval rfl))
    refine PySem.callWith_type (plain_list fun e he => by cases he with | head => exact a.pl | tail _ h => cases h) (args_run a.pl (args_cons (s1 c g w sh _ ok fun w1 h1 t1 val ok1 ex1 hv1 => args_nil ?_) (star_plain a.pl)))
    obtain ⟨xs, hx⟩ := l.items
    obtain ⟨al, vs, n1, rfl, g1, v1⟩ := ok1.items hv1 hx
    refine call_enumerate_1 g1 fun h2 he2 hi2 hz2 hk2 => ?_
    refine wpAny_pyIter_enum he2 ?_
    have nn : h1.get? (h1.objs.size + 1) = none := by
      cases hq : h1.get? (h1.objs.size + 1) with
      | none => rfl
      | some o => exact absurd (Heap.lt_size hq) (Nat.not_lt.mpr (Nat.le_succ _))
    refine l.runE (fun _ _ h => h) hy hk hz hj (Nat.succ_ne_self _) g (ok1.keep hk2) hv1 he2 hi2 (ok1.off_new (fresh_none _)) (ok1.off_new nn) fun w2 h2 t2 fl2 ok3 ex3 hf => ?_
    exact q w2 h2 t2 fl2 ok3 (ex1.trans ex3) hf
  rcases forL_some (B := BE i k) (fun n v st k r h => by
      obtain ⟨l, hl, h2⟩ := put_some h
      obtain ⟨l', hl', h3⟩ := put_some h2
      exact ⟨_, ⟨l, l', hl, hl', rfl⟩, h3⟩) hb hc 200 0 st1 h1 with ⟨st2, s2, h3⟩ | ⟨v, st2, s2, h3⟩
  · exact .inl ⟨st2, run _ _ s2, h3⟩
  · exact .inr ⟨v, st2, run _ _ s2, h3⟩
end
end Mine

namespace Mine
open PySem PySem.W PySem.Calls PyProof.Rows

structure DfOK (G : Pg) (k : Nat) (f : Fc) (x : Fx) (o : Obj) (fd : FuncData) (body : List Stmt) : Prop where
  look : G.K.lookup (G.fa k) = some o
  data : o.data = .func fd
  fbody : fd.body = .stmts body
  code : codeIn G.K fd.code fd.qualname = true
  scope : fd.scope = x.scope
  globals : fd.globals = mainGlobals
  builtins : fd.builtins = builtinsNs
  kind : x.scope.kind = .function
  co : x.scope.isCoroutine = false
  gen : x.scope.isGenerator = false
  cell : ∀ y ∈ x.scope.names, y.2 ≠ .cell
  loc : ∀ y ∈ x.names.take f.ps, x.scope.names.lookup y = some .local
  len : f.ps ≤ x.names.length
  nd : x.names.Nodup
  nb : ∀ y ∈ x.names, (y == ("__debug__" : Str)) = false
  bind : ∀ vals : List Value, vals.length = f.ps → bindArgs fd ⟨vals, []⟩ = pure ((x.names.take f.ps).zip vals)
  snd : SndB G x body f.body

section
variable {G : Pg} {x xk : Fx} {c : Cfg} {d : Nat}
theorem getL_nones (j i : Nat) : getL (nones j) i = none := by
  induction j generalizing i with
  | zero => rfl
  | succ j ih => cases i with
    | zero => rfl
    | succ i => exact ih i
theorem getL_binds (w : Wd) (nx j : Nat) {vs : List V} {vals : List Value} (h : VRs G w nx vs vals) : ∀ {i : Nat} {v : V}, getL (@List.rec V (fun _ => List (Option V)) (nones j) (fun v _ ih => some v :: ih) vs) i = some v → ∃ val, vals[i]? = some val ∧ VR G w nx v val := by
  induction h with
  | nil =>
    intro i v e
    have : getL (nones j) i = some v := e
    rw [getL_nones] at this; cases this
  | cons a _ ih =>
    intro i v e
    cases i with
    | zero => cases e; exact ⟨_, rfl, a⟩
    | succ i => exact ih e
theorem VRs.length {w : Wd} {nx : Nat} {vs : List V} {vals : List Value} (h : VRs G w nx vs vals) : lenL vs = vals.length := by
  induction h with
  | nil => rfl
  | cons _ _ r => exact congrArg Nat.succ r
theorem look_mem {β : Type} : ∀ {cs : List (Str × β)} {n : Str} {c : β}, (cs.map (·.1)).Nodup → (n, c) ∈ cs → cs.lookup n = some c
  | (n', c') :: cs, n, c, hnd, hm => by
    rw [List.map_cons, List.nodup_cons] at hnd
    rcases List.mem_cons.mp hm with e | hm
    · cases e; rw [List.lookup_cons, beq_self_eq_true]
    · have : (n == n') = false := by
        refine beq_eq_false_iff_ne.mpr fun e => hnd.1 ?_
        rw [← e]; exact List.mem_map.mpr ⟨(n, c), hm, rfl⟩
      rw [List.lookup_cons, this]
      exact look_mem hnd.2 hm
theorem zip_lookup {l : List Str} {vals : List Value} (nd : l.Nodup) (hl : l.length ≤ vals.length) {i : Nat} {y : Str} {val : Value} (h1 : l[i]? = some y) (h2 : vals[i]? = some val) : (l.zip vals).reverse.lookup y = some val := by
  refine look_mem ?_ ?_
  · rw [List.map_reverse, List.map_fst_zip hl]
    exact List.pairwise_reverse.mpr (nd.imp fun h => Ne.symm h)
  · rw [List.mem_reverse]
    have := List.getElem?_zip_eq_some (l₁ := l) (l₂ := vals) (z := (y, val)) (i := i)
    exact List.mem_of_getElem? (this.mpr ⟨h1, h2⟩)

theorem enter {k : Nat} {f : Fc} {o : Obj} {fd : FuncData} {body : List Stmt} (df : DfOK G k f xk o fd body) (g : Good G x (d + 1) c) {s : Shared} {m : Str → Option Value} (F : Fr c.h₀ c.L s.heap m) {w0 : Wd} {hp : Hp} {nx : Nat}
    (ls : ∀ e ∈ w0.led, s.heap.get? e.2.1 = some e.2.2 ∧ e.2.1 ≠ c.L ∧ c.h₀.get? e.2.1 = none ∧ (∀ o, ¬ w0.D e.2.1 o)) (hD : ∀ a o, w0.D a o → s.heap.get? a = some o)
    (an : (w0.led.map (·.2.1)).Nodup) (kn : (w0.led.map (·.1)).Nodup) (kl : ∀ e ∈ w0.led, e.1 < nx) (lr : LedR G.fa w0.D w0.led hp) {vs : List V} {vals : List Value} (hv : VRs G w0 nx vs vals) (hn : lenL vs = f.ps) {v : V} {st' : St}
    (hb : StepB G xk d body ⟨binds f.ns vs, hp, nx⟩ (.ret v) st') {Q : Value → Shared → Prop}
    (q : ∀ c' : Cfg, c'.h₀ = hideAll s.heap (w0.led.map (·.2.1)) → c'.D₀ = w0.D → ∀ w' h' tk val, OK G xk c' w' st' h' → Ext w0 nx w' st'.nx → VF G.fa w'.D v val → Q val { s with heap := h', toks := tk }) :
    wpAny (model G.prog G.w) c.A (call (.ref (G.fa k)) vals) Q (fun _ _ => False) s := by
  obtain ⟨A₀, base, outer, B, hA⟩ := g.below
  have N : News c.h₀ c.L s.heap (w0.led.map (·.2)) := fun p hp => by
    obtain ⟨e, he, rfl⟩ := List.mem_map.mp hp
    exact ⟨(ls e he).1, (ls e he).2.1, (ls e he).2.2.1⟩
  have own : (w0.led.map (·.2)).map (·.1) = w0.led.map (·.2.1) := by rw [List.map_map]; rfl
  obtain ⟨FG, BG, st, _⟩ := groundX (R := fun _ _ => True) B F N hA g.frame (by rw [g.scope]; exact g.kind)
  rw [own] at FG BG st
  have hvl : vals.length = f.ps := by rw [← hv.length]; exact hn
  refine wpAny_call (codeAny_call_def (fd := fd) (body := body) (Nat.lt_of_le_of_lt (Nat.le_add_right _ _) g.depth) (g.K.keeps F.keep _ _ df.look) df.data (g.T.nolimit.keeps F.keep) (codeRec_of (g.K.keeps F.keep) df.code) df.fbody
    (BindsTo.of_eq (df.bind vals hvl)) (by rw [df.scope]; exact df.cell) (fun y hy => by rw [df.scope]; exact df.loc _ (List.of_mem_zip hy).1) (fun h₁ hns hk₁ => ?_) (by rw [df.scope]; exact df.co) (by rw [df.scope]; exact df.gen) (by rw [df.scope]; exact df.kind))
  refine wpF (hb { A := c.A.deeper (callEnv fd s.heap.objs.size (G.fa k)), env := callEnv fd s.heap.objs.size (G.fa k), h₀ := hideAll s.heap (w0.led.map (·.2.1)), L := s.heap.objs.size, X := fun _ _ => False, D₀ := w0.D } ?_ { w0 with m := fun y => ((xk.names.take f.ps).zip vals).reverse.lookup y } _ _ ?_ fun w' h' tk fl ok ex hf => ?_)
  · refine ⟨⟨c.A, base, c.env :: outer, BG, Around.frames_deeper hA⟩, g.K.keeps st, g.T.keeps st, g.hh, ?_, ?_, df.scope, df.kind, rfl, rfl, df.globals, df.builtins, df.nd, df.nb, g.pg⟩
    · show c.A.depth + 1 + d < recursionLimit
      have := g.depth; omega
    · show c.A.units + 3 + 16 * d + 100 < cLine
      have := g.units; omega
  · refine ⟨⟨hns, fun b o e => hk₁ b o (of_hideAll _ e), Nat.le_of_eq (hideAll_size _ _)⟩, fun _ _ e => e.elim, fun a o e => ⟨hk₁ _ _ (hD a o e), Nat.ne_of_lt (Heap.lt_size (hD a o e))⟩, fun _ _ _ e => e.elim, fun _ _ e => .inl e,
      fun e he => ⟨hk₁ _ _ (ls e he).1, Nat.ne_of_lt (Heap.lt_size (ls e he).1), hideAll_none _ (List.mem_map_of_mem (f := fun e : Nat × Addr × Obj => e.2.1) he), fun _ e => e, (ls e he).2.2.2⟩, an, kn, kl, lr, fun i v e => ?_⟩
    obtain ⟨val, h1, h2⟩ := getL_binds w0 nx _ hv e
    have hi : i < f.ps := hvl ▸ (List.getElem?_eq_some_iff.mp h1).1
    obtain ⟨y, hy⟩ : ∃ y, xk.names[i]? = some y := ⟨_, List.getElem?_eq_getElem (Nat.lt_of_lt_of_le hi df.len)⟩
    have ht : (xk.names.take f.ps)[i]? = some y := by rw [List.getElem?_take_of_lt hi]; exact hy
    refine ⟨y, val, hy, h2, .inl ⟨?_, zip_lookup (df.nd.sublist (List.take_sublist _ _)) (by rw [List.length_take, hvl]; exact Nat.min_le_left _ _) ht h1⟩⟩
    show fd.scope.names.lookup y = _
    rw [df.scope]
    exact df.loc y (List.mem_of_getElem? ht)
  · cases hf with
    | ret hvf => exact q _ rfl rfl w' h' tk _ ok ⟨ex.D, ex.nx, ex.led⟩ hvf
end
end Mine

namespace Mine
open PySem PySem.W PySem.Calls PyProof.Rows

section
variable {G : Pg} {x xk : Fx} {c : Cfg} {d : Nat}
/-- the caller's frame, once the call is back -/
theorem OK.after {w w' : Wd} {lm : List (Option V)} {hp : Hp} {nx : Nat} {st' : St} {h h' : Heap} {c' : Cfg} (ok : OK G x c w ⟨lm, hp, nx⟩ h) (e1 : c'.h₀ = hideAll h (w.led.map (·.2.1))) (e2 : c'.D₀ = w.D) (ok' : OK G xk c' w' st' h') (ex : Ext w nx w' st'.nx) :
    OK G x c { w' with m := w.m } ⟨lm, st'.hp, st'.nx⟩ h' := by
  have nown : ∀ b, b ∈ w.led.map (·.2.1) → ∃ e ∈ w.led, e.2.1 = b := fun b hb => List.mem_map.mp hb
  have ing : ∀ b o, h.get? b = some o → b ∉ w.led.map (·.2.1) → c'.h₀.get? b = some o := fun b o e n => by rw [e1]; exact hideAll_get _ e n
  have inh : ∀ b o, h.get? b = some o → b ∉ w.led.map (·.2.1) → h'.get? b = some o := fun b o e n => ok'.F.keep b o (ing b o e n)
  have n0 : ∀ b o, c.h₀.get? b = some o → b ∉ w.led.map (·.2.1) := fun b o e n => by
    obtain ⟨e', he, rfl⟩ := nown b n
    have := (ok.ls e' he).2.2.1; rw [e] at this; cases this
  have nL : c.L ∉ w.led.map (·.2.1) := fun n => by
    obtain ⟨e', he, q⟩ := nown _ n
    exact (ok.ls e' he).2.1 q
  have nX : ∀ a o, c.X a o → a ∉ w.led.map (·.2.1) := fun a o hx n => by
    obtain ⟨e', he, rfl⟩ := nown a n
    exact (ok.ls e' he).2.2.2.1 o hx
  have gX : ∀ a o, c.X a o → c'.h₀.get? a ≠ none := fun a o hx e => by rw [ing _ _ (ok.xs a o hx).1 (nX a o hx)] at e; cases e
  have gL : c'.h₀.get? c.L ≠ none := fun e => by
    obtain ⟨oL, _, _, hL, _⟩ := ok.F.ns
    rw [ing _ _ hL nL] at e; cases e
  have g0 : ∀ a, c'.h₀.get? a = none → c.h₀.get? a = none := fun a e => by
    cases q : c.h₀.get? a with
    | none => rfl
    | some o => rw [ing _ _ (ok.F.keep a o q) (n0 a o q)] at e; cases e
  exact {
    F := ⟨ok.F.ns.at fun o e => inh _ o e nL, fun b o e => inh b o (ok.F.keep b o e) (n0 b o e), ok.F.above⟩
    xs := fun a o e => ⟨inh a o (ok.xs a o e).1 (nX a o e), (ok.xs a o e).2⟩
    ds := fun a o e => ⟨(ok'.ds a o e).1, fun q => by
      rcases ok'.d0 a o e with h1 | h1
      · rw [e2] at h1; exact (ok.ds a o h1).2 q
      · exact gL (q ▸ h1)⟩
    xd := fun a o o' hx hd => by
      rcases ok'.d0 a o' hd with h1 | h1
      · rw [e2] at h1; exact ok.xd a o o' hx h1
      · exact gX a o hx h1
    d0 := fun a o e => by
      rcases ok'.d0 a o e with h1 | h1
      · rw [e2] at h1; exact ok.d0 a o h1
      · exact .inr (g0 a h1)
    ls := fun e he => by
      obtain ⟨h1, h2, h3, h4, h5⟩ := ok'.ls e he
      exact ⟨h1, fun q => gL (q ▸ h3), g0 _ h3, fun o hx => gX _ o hx h3, h5⟩
    an := ok'.an
    kn := ok'.kn
    kl := ok'.kl
    lr := ok'.lr
    lm := fun i v e => by
      obtain ⟨y, val, h1, h2, h3⟩ := ok.lm i v e
      exact ⟨y, val, h1, h2.ext (w' := { w' with m := w.m }) ⟨ex.D, ex.nx, ex.led⟩, h3⟩ }

theorem SndCa.bot (d : Nat) : SndCa G d Ca.bot := ⟨fun _ _ _ h => (by cases h), fun _ _ _ _ _ h => (by cases h)⟩
theorem runF_some {ih : Ca} {f : Fc} {vs : List V} {hp : Hp} {n : Nat} {r : V × Hp × Nat} (h : runF ih f vs hp n = some r) : lenL vs = f.ps ∧ f.body ih ⟨binds f.ns vs, hp, n⟩ (fun _ => none) = some r := by
  obtain ⟨h1, h2⟩ := yn_none h
  exact ⟨(Nat.eq_of_beq_eq_true h1).symm, h2⟩
abbrev noTab : Nat → List V → Option V := fun _ _ => none
theorem SndCa.step {ft : Nat → Option Fc} {ih : Ca} (hf : ∀ k f, ft k = some f → k < G.nf ∧ ∃ x o fd body, DfOK G k f x o fd body) (hc : SndCa G d ih) : SndCa G (d + 1) (step noTab ft ih) where
  pure := fun k vs r h => by
    have h0 : bo (ft k) (fun f => bo (runF ih f vs [] 0) fun r => some r.1) = some r := h
    obtain ⟨f, e1, h1⟩ := bo_some h0
    obtain ⟨r', e2, h2⟩ := bo_some h1
    obtain ⟨lt, xk, o, fd, body, df⟩ := hf k f e1
    obtain ⟨hl, hb⟩ := runF_some e2
    refine ⟨lt, fun x c g m s D vals Q F hD hv q => ?_⟩
    rcases df.snd d ih hc _ _ _ hb with ⟨_, _, h3⟩ | ⟨v, st', sb, rfl⟩
    · cases h3
    cases h2
    refine enter df g F (w0 := ⟨D, [], m⟩) (hp := []) (nx := 0) (fun e he => nomatch he) hD .nil .nil (fun e he => nomatch he) .nil (VRs.of hv) hl sb fun c' e1 e2 w' h' tk val ok' ex hvf => ?_
    refine q h' tk val (fun a o => w'.D a o ∧ s.heap.get? a = none) (fun b o e => ok'.F.keep b o (by rw [e1]; exact e)) (fun a o e => ⟨(ok'.ds a o e.1).1, e.2⟩) (hvf.mono fun a o e => ?_)
    rcases ok'.d0 a o e with h1 | h1
    · rw [e2] at h1; exact .inl h1
    · rw [e1] at h1; exact .inr ⟨e, h1⟩
  run := fun k vs hp nx r h => by
    have h0 : bo (ft k) (fun f => runF ih f vs hp nx) = some r := h
    obtain ⟨f, e1, h1⟩ := bo_some h0
    obtain ⟨lt, xk, o, fd, body, df⟩ := hf k f e1
    obtain ⟨hl, hb⟩ := runF_some h1
    refine ⟨lt, fun x c g lm w s vals Q ok hv q => ?_⟩
    rcases df.snd d ih hc _ _ _ hb with ⟨_, _, h3⟩ | ⟨v, st', sb, rfl⟩
    · cases h3
    refine enter df g ok.F (w0 := w) (fun e he => ⟨(ok.ls e he).1, (ok.ls e he).2.1, (ok.ls e he).2.2.1, (ok.ls e he).2.2.2.2⟩) (fun a o e => (ok.ds a o e).1) ok.an ok.kn ok.kl ok.lr hv hl sb fun c' e1 e2 w' h' tk val ok' ex hvf => ?_
    exact q _ h' tk val (ok.after e1 e2 ok' ex) ⟨ex.D, ex.nx, ex.led⟩ hvf
theorem SndCa.cas {ft : Nat → Option Fc} (hf : ∀ k f, ft k = some f → k < G.nf ∧ ∃ x o fd body, DfOK G k f x o fd body) : ∀ n, SndCa G n (cas noTab ft n)
  | 0 => .bot 0
  | n + 1 => .step hf (SndCa.cas hf n)
end
end Mine

namespace Mine
open PySem PySem.W PySem.Calls PyProof.Rows

section
variable {G : Pg} {x : Fx} {p : Pos} {c : Cfg} {w : Wd} {st : St} {h : Heap} {N : Fact}
theorem Off.addD {I : Addr} (f : Off c w I) (hN : ∀ o, ¬ N I o) : Off c (w.addD N) I := ⟨f.1, f.2.1, f.2.2.1, fun o q => q.elim (f.2.2.2.1 o) (hN o), f.2.2.2.2⟩
/-- an object that a loop kept becomes a frozen one -/
theorem OK.offD (k : OK G x c w st h) {I : Addr} {o : Obj} (f : Off c w I) (ho : h.get? I = some o) : OK G x c (w.addD (one I o)) st h where
  F := k.F
  xs := k.xs
  ds := fun a p e => e.elim (k.ds a p) fun ⟨e1, e2⟩ => by subst e1 e2; exact ⟨ho, f.2.1⟩
  xd := fun a p p' hx e => e.elim (k.xd a p p' hx) fun ⟨e1, e2⟩ => f.2.2.1 p (e1 ▸ hx)
  d0 := fun a p e => e.elim (k.d0 a p) fun ⟨e1, e2⟩ => .inr (e1 ▸ f.1)
  ls := fun e he => by
    obtain ⟨h1, h2, h3, h4, h5⟩ := k.ls e he
    exact ⟨h1, h2, h3, h4, fun p q => q.elim (h5 p) fun ⟨e1, _⟩ => f.2.2.2.2 e he e1⟩
  an := k.an
  kn := k.kn
  kl := k.kl
  lr := k.lr.mono fun _ _ h => .inl h
  lm := fun i v e => by
    obtain ⟨y, val, h1, h2, h3⟩ := k.lm i v e
    exact ⟨y, val, h1, h2.ext (Ext.addD w _ st.nx), h3⟩
/-- what the block's names mean -/
structure BlkOK (sc : Scope) (env : Env) (cl : List (Str × Addr)) (xn : Str) : Prop where
  kind : sc.kind = .function
  cell : ∀ y ∈ sc.names, y.2 ≠ .cell
  names : ∀ y ∈ sc.names, y.2 = .local → sc.names.lookup y.1 = some .local
  clos : closureFor sc env = pure cl
  var : (relabel sc env).names.lookup xn = some .local
def New (h h' : Heap) (N : Fact) : Prop := Keep h h' ∧ ∀ a o, N a o → h'.get? a = some o ∧ h.get? a = none
/-- the block's item -/
def EltOK (G : Pg) (x : Fx) (c : Cfg) (w1 : Wd) (st : St) (elt : PySem.Expr) (ce : Addr → Env) (xn : Str) (el : V → Option V) : Prop :=
  ∀ u v, el u = some v → ∀ (C : Addr) (uv : Value) (m : Str → Option Value) (w : Wd) (s : Shared) (Q : Value → Shared → Prop), Ext w1 st.nx w st.nx → OK G x c w st s.heap → s.heap.Ns C m → m xn = some uv → VF G.fa w.D u uv →
    (∀ h' tk val N, New s.heap h' N → VF G.fa (w.addD N).D v val → Q val { s with heap := h', toks := tk }) → wpAny (model G.prog G.w) c.A (eval elt (ce C)) Q (fun _ _ => False) s

/-- where the block's loop stands -/
inductive BlkI (G : Pg) (x : Fx) (c : Cfg) (st : St) (el : V → Option V) (tot : List V) (al I D C : Addr) (vs : List Value) (w : Wd) (sh : Shared) : Nat → Shared → Prop
  | mk {rem rs done : List V} {w1 : Wd} {h1 : Heap} {tk : Nat} {m : Str → Option Value} {i n : Nat} {dvs : List Value} : mapO el rem = some rs → appL done rs = tot → OK G x c w1 st h1 → Ext w st.nx w1 st.nx → Off c w1 I → Off c w1 D → Off c w1 C →
      h1.IsListIter I al i → h1.get? D = some (LO dvs n) → h1.Ns C m → VFs G.fa w1.D done dvs → VFs G.fa w1.D rem (vs.drop i) → dvs.length = i → BlkI G x c st el tot al I D C vs w sh rem.length { sh with heap := h1, toks := tk }
theorem appL_nil (l : List V) : appL l [] = l := by
  induction l with
  | nil => rfl
  | cons a r ih => exact congrArg (a :: ·) ih
theorem appL_one (l : List V) (v : V) (r : List V) : appL (appL l [v]) r = appL l (v :: r) := by
  induction l with
  | nil => rfl
  | cons a l ih => exact congrArg (a :: ·) ih
theorem drop_head {vs : List Value} {i : Nat} : vs.toArray[i]? = (vs.drop i).head? := by rw [List.head?_drop, List.getElem?_toArray]

theorem blk_loop {d : Nat} (g : Good G x d c) {elt it : PySem.Expr} {p6 p7 : Pos} {sc : Scope} {cl : List (Str × Addr)} {xn : Str} {el : V → Option V} (bo : BlkOK sc c.env cl xn) (he : EltOK G x c w st elt (fun C => compEnvC sc cl C c.env) xn el)
    {al I D C : Addr} {vs : List Value} {n0 : Nat} {tot : List V} {sh : Shared} {R : Result → Shared → Prop} (hIC : I ≠ C) (hDC : D ≠ C) (hID : I ≠ D) (hal : w.D al (LO vs n0)) (hz : vs.length ≤ 4096)
    (fin : ∀ w' h' tk, OK G x c w' st h' → Ext w st.nx w' st.nx → Off c w' C → (∃ m, h'.Ns C m) → VF G.fa w'.D (.lst tot) (.ref D) → R (.ok .next) { sh with heap := h', toks := tk }) {k : Nat} {s : Shared} (h0 : BlkI G x c st el tot al I D C vs w sh k s) :
    codeAny (model G.prog G.w) c.A (.compLoop (.ListComp elt [⟨.Name xn p6, it, [], 0⟩] sc p7) 0 (.ref I) (.ref D) (compEnvC sc cl C c.env)) R s := by
  refine codeAny_compLoop_list (BlkI G x c st el tot al I D C vs w sh) ?_ k h0
  rintro _ _ ⟨hev, htot, ok1, ex1, oI, oD, oC, hit, hD, hC, hdone, hrem, hlen⟩
  rename_i rem rs done w1 h1 tk m i n dvs
  have hl : h1.IsList al vs.toArray := ⟨_, (ok1.ds _ _ (ex1.D _ _ hal)).1, rfl, _, rfl⟩
  generalize hdr : vs.drop i = remv at hrem
  cases hrem with
  | nil =>
    cases hev
    refine wpAny_pyNext_list_end g.hh hit hl (by rw [drop_head, hdr]; rfl) fun h2 he => ?_
    have hD2 : h2.get? D = some (LO dvs n) := he _ _ (Ne.symm hID) hD
    rw [appL_nil] at htot
    subst htot
    exact fin (w1.addD (one D (LO dvs n))) h2 tk ((ok1.off_ext oI he).offD oD hD2) (ex1.trans (Ext.addD ..)) (oC.addD fun o e => hDC e.1.symm) ⟨m, hC.extBut he (Ne.symm hIC)⟩ (.lst (.inr ⟨rfl, rfl⟩) (hdone.mono fun _ _ h => .inl h))
  | @cons u uv rem' remv' hu hrem' =>
    obtain ⟨v, rs', e1, e2, rfl⟩ := mapO_cons hev
    refine wpAny_pyNext_list_item hit hl (x := uv) (by rw [drop_head, hdr]; rfl) fun h2 hit2 hs2 => ?_
    replace hs2 : Heap.SameBut I h1 h2 := hs2
    refine wpAny_assign_Name (wpAny_storeName_local bo.var (hC.sameBut hs2 (Ne.symm hIC)) (fun h3 hn3 hs3 => ?_) (by show (sc.kind == .class || (sc.kind == .module && _)) = false; rw [bo.kind]; rfl))
    replace hs3 : Heap.SameBut C h2 h3 := hs3
    have ok3 := (ok1.off_ext oI hs2.extBut).off_ext oC hs3.extBut
    have hit3 := hit2.extBut hs3.extBut hIC
    have hD3 : h3.get? D = some (LO dvs n) := (hs3.2 _ hDC).trans ((hs2.2 _ (Ne.symm hID)).trans hD)
    have hi : i < vs.length := by
      rcases Nat.lt_or_ge i vs.length with hq | hq
      · exact hq
      · rw [List.drop_eq_nil_of_le hq] at hdr; cases hdr
    have hdr' : remv' = vs.drop (i + 1) := by rw [← List.drop_drop, hdr]; rfl
    clear hC hit hD hl hdr
    refine wpF (he u v e1 C uv _ w1 _ _ ex1 ok3 hn3 (if_pos rfl) hu fun h4 tk4 val N (hnw : New h3 h4 N) hval => ?_)
    obtain ⟨hk4, hN⟩ := hnw
    have ok4 := ok3.addD hk4 hN
    have nN : ∀ a, (∃ o, h3.get? a = some o) → ∀ o, ¬ N a o := fun a ⟨o', e⟩ o q => by rw [(hN a o q).2] at e; cases e
    have oI4 := oI.addD (nN I (let ⟨o, e, _⟩ := hit3; ⟨o, e⟩))
    have oD4 := oD.addD (nN D ⟨_, hD3⟩)
    have oC4 := oC.addD (nN C (let ⟨o, _, _, e, _⟩ := hn3; ⟨o, e⟩))
    refine append_any (hk4 _ _ hD3) (by omega) fun h6 ⟨n6, hD6⟩ hs6 => ?_
    replace hs6 : Heap.SameBut D h4 h6 := hs6
    refine ⟨rem'.length, Nat.lt_succ_self _, .mk (w1 := w1.addD N) (i := i + 1) e2 (by rw [appL_one]; exact htot) (ok4.off_ext oD4 hs6.extBut) (ex1.trans (Ext.addD ..)) oI4 oD4 oC4 ?_ hD6 ((hn3.keeps hk4).sameBut hs6 (Ne.symm hDC)) ((hdone.mono fun _ _ h => .inl h).app (.cons hval .nil)) ?_ (by rw [List.length_append, hlen]; rfl)⟩
    · obtain ⟨o, ho, r⟩ := hit3
      exact ⟨o, hs6.extBut _ _ hID (hk4 _ _ ho), r⟩
    · rw [← hdr']
      exact hrem'.mono fun _ _ h => .inl h
/-- the block, from its list on -/
theorem blk_run {d : Nat} (g : Good G x d c) {elt it : PySem.Expr} {p6 p7 : Pos} {sc : Scope} {cl : List (Str × Addr)} {xn : Str} {el : V → Option V} (bo : BlkOK sc c.env cl xn) (he : EltOK G x c w st elt (fun C => compEnvC sc cl C c.env) xn el) (ok : OK G x c w st h)
    {al : Addr} {vs : List Value} {n0 : Nat} {xs tot : List V} (hal : w.D al (LO vs n0)) (hvs : VFs G.fa w.D xs vs) (hz : vs.length ≤ 4096) (ht : mapO el xs = some tot) {sh : Shared} {tk : Nat} {Q : Value → Shared → Prop}
    (q : ∀ w' h' tk val, OK G x c w' st h' → Ext w st.nx w' st.nx → VR G w' st.nx (.lst tot) val → Q val { sh with heap := h', toks := tk }) :
    wpAny (model G.prog G.w) c.A (pyIter (.ref al)) (fun it' s₂ => wpAny (model G.prog G.w) c.A (newList []) (fun acc s₃ => wpAny (model G.prog G.w) c.A (newFunctionEnv sc c.env.globals cl [] c.env.qual none .none (some c.env)) (fun cenv s₄ =>
      codeAny (model G.prog G.w) c.A (.compStart (.ListComp elt [⟨.Name xn p6, it, [], 0⟩] sc p7) 0 it' acc { cenv with scope := relabel sc c.env }) (compPost (model G.prog G.w) c.A (fun _ _ => False) none Q acc cenv.locals) s₄) (fun _ _ => False) s₃) (fun _ _ => False) s₂) (fun _ _ => False) { sh with heap := h, toks := tk } := by
  refine wpAny_pyIter_list ⟨_, (ok.ds _ _ hal).1, rfl, _, rfl⟩ ?_
  have oI := ok.off_new (fresh_none h)
  have iI := Heap.get?_push_size h (o := { cls := .type "list_iterator", data := .fields #[.ref al, .int 0 0] }) rfl
  have ok2 := ok.keep (push_keep h { cls := .type "list_iterator", data := .fields #[.ref al, .int 0 0] })
  have zI : h.objs.size < (h.push { cls := .type "list_iterator", data := .fields #[.ref al, .int 0 0] }).objs.size := Heap.lt_size iI
  show wpAny _ _ _ _ _ { sh with heap := h.push { cls := .type "list_iterator", data := .fields #[.ref al, .int 0 0] }, toks := tk }
  generalize h.push { cls := .type "list_iterator", data := .fields #[.ref al, .int 0 0] } = h2 at iI ok2 zI ⊢
  refine wpAny_newObj_type ?_ (by show (0 : Nat) ≤ sizeLine; decide)
  have oD := ok2.off_new (fresh_none h2)
  have iD := Heap.get?_push_size h2 (o := LO [] 0) rfl
  have kD := push_keep h2 (LO [] 0)
  have ok3 := ok2.keep kD
  have zD : h2.objs.size < (h2.push (LO [] 0)).objs.size := Heap.lt_size iD
  show wpAny _ _ _ _ _ { sh with heap := h2.push (LO [] 0), toks := tk }
  generalize h2.push (LO [] 0) = h3 at iD ok3 zD kD ⊢
  refine wpAny_newFunctionEnv bo.cell (by intro y hy; cases hy) (fun h4 hns hsb => ?_) bo.kind
  have k4 : Keep h3 h4 := fun b o e => hsb.extBut b o (Nat.ne_of_lt (Heap.lt_size e)) (Heap.get?_push_of_some _ e)
  have hit : h4.IsListIter h.objs.size al 0 := ⟨_, k4 _ _ (kD _ _ iI), rfl, rfl⟩
  have loop : codeAny (model G.prog G.w) c.A (.compLoop (.ListComp elt [⟨.Name xn p6, it, [], 0⟩] sc p7) 0 (.ref h.objs.size) (.ref h2.objs.size) (compEnvC sc cl h3.objs.size c.env)) (compPost (model G.prog G.w) c.A (fun _ _ => False) none Q (.ref h2.objs.size) h3.objs.size) { sh with heap := h4, toks := tk + ([] : List (Str × Value)).length } :=
    blk_loop g bo he (sh := sh) (k := xs.length) (Nat.ne_of_lt (Nat.lt_trans zI zD)) (Nat.ne_of_lt zD) (Nat.ne_of_lt zI) hal hz
      (fun w' h' tk okk ex oC' ⟨m, hm⟩ hv => ⟨m, hm, fun h'' hs'' => q w' h'' tk _ (okk.off_ext oC' (Heap.SameBut.extBut hs'')) ex (VR.of hv)⟩)
      (.mk (done := []) ht rfl (ok3.keep k4) (Ext.refl ..) oI oD (ok3.off_new (fresh_none h3)) hit (k4 _ _ iD) hns .nil hvs rfl)
  exact codeAny_compStart_list loop (wpAny_pyIter_listiter hit loop)
theorem SndE.blk {el : V → Option V} {elt it : PySem.Expr} {f : CE} {p6 p7 : Pos} {sc : Scope} {xn : Str} (hs : ∀ v env, foldedSetIterable it env v = pure v) (a : SndE G x it f) (b : ∀ env : Env, env.scope = x.scope → BlkOK sc env [] xn)
    (he : ∀ d c w st, Good G x d c → EltOK G x c w st elt (fun C => compEnvC sc [] C c.env) xn el) : SndE G x (.ListComp elt [⟨.Name xn p6, it, [], 0⟩] sc p7) (cBlk el f) := ⟨rfl, fun d ca hc st k r h => by
  obtain ⟨v, st1, s1, h1⟩ := a.snd d ca hc st _ r h
  obtain ⟨xs, rfl, h2⟩ := asL_some h1
  obtain ⟨e1, h3⟩ := yn_none h2
  obtain ⟨tot, ht, h6⟩ := bo_some h3
  refine ⟨.lst tot, st1, fun c g w s Q ok q => ?_, h6⟩
  have bo := b c.env g.scope
  rw [eval_ListComp]
  refine wpAny_comprehension_free (use := none) rfl (fun v => hs v _) bo.clos bo.kind bo.names (s1 c g w s _ ok fun w1 h1 t1 val ok1 ex1 hv1 => ?_)
  obtain ⟨al, vs, n0, rfl, hal, hvs⟩ := hv1.lst_
  exact blk_run g bo (he d c w1 st1 g) ok1 hal hvs (shortL_le hvs e1) ht fun w' h' tk val ok' ex hv => q w' h' tk val ok' (ex1.trans ex) hv⟩
end
end Mine

namespace Mine
open PySem PySem.W PySem.Calls PyProof.Rows

section
variable {G : Pg} {x : Fx} {p : Pos} {c : Cfg} {w : Wd} {st : St} {h : Heap} {N : Fact}
theorem OK.cell (k : OK G x c w st h) {wn : Str} {i : Nat} {v : V} (hi : x.names[i]? = some wn) (g : (c.env.kindOf wn) = some .cell) (e : getL st.lm i = some v) : ∃ a o val, c.env.cells.lookup wn = some a ∧ c.X a o ∧ o.data = .cell (some val) ∧ VR G w st.nx v val := by
  obtain ⟨y, val, h1, h2, h3⟩ := k.lm i v e
  cases h1.symm.trans hi
  rcases h3 with ⟨h4, _⟩ | ⟨_, a, o, h5, h6, h7⟩
  · rw [g] at h4; cases h4
  · exact ⟨a, o, val, h5, h6, h7, h2⟩
theorem New.tup {h h1 : Heap} {N : Fact} (n : New h h1 N) (vs : List Value) : New h (h1.push (TO vs 0)) (fun a o => N a o ∨ one h1.objs.size (TO vs 0) a o) :=
  ⟨fun b o e => push_keep _ _ _ _ (n.1 b o e), fun a o e => e.elim (fun e => ⟨push_keep _ _ _ _ (n.2 a o e).1, (n.2 a o e).2⟩) fun ⟨e1, e2⟩ => by
    subst e1 e2
    refine ⟨Heap.get?_push_size _ rfl, ?_⟩
    cases q : h.get? h1.objs.size with
    | none => rfl
    | some o => exact absurd (Heap.lt_size (n.1 _ _ q)) (Nat.lt_irrefl _)⟩
theorem elt_call {d : Nat} {ca : Ca} (hc : SndCa G d ca) (g : Good G x d c) {j : Nat} {fn xn wn : Str} {sc : Scope} {wv : V} {cl : List (Str × Addr)} {wa : Addr} {wo : Obj} {wval : Value} {kk : Nat} {p0 p1 p2 p3 p4 p5 : Pos} (hfn : fn = G.gn j)
    (k : sc.kind = .function) (xn' : (relabel sc c.env).names.lookup xn = some .local) (fn' : (relabel sc c.env).names.lookup fn = some .globalImplicit) (wn' : (relabel sc c.env).names.lookup wn = some .cell) (xd : (xn == ("__debug__" : Str)) = false) (wd : (wn == ("__debug__" : Str)) = false)
    (hcl : cl.lookup wn = some wa) (hwx : c.X wa wo) (hwd : wo.data = .cell (some wval)) (hwv : VF G.fa w.D wv wval) :
    EltOK G x c w st (.Tuple [.Constant (.bool false) kk p0, .Call (.Name fn p1) [.Name xn p2, .Name wn p3] [] p4] 0 p5) (fun C => compEnvC sc cl C c.env) xn (elC ca j wv) := fun u r hu C uv m w1 s Q ex ok hn hm hv q => by
  obtain ⟨e0, h1⟩ := yn_some hu
  obtain ⟨v, e1, h2⟩ := bo_some h1
  cases h2
  obtain ⟨lt, hpure⟩ := hc.pure j [u, wv] v e1
  refine Tuple_ (args_cons (Constant_bool (args_cons (Call_ (Name_function_global k fn' (loadGlobal_global (by show s.heap.Ns c.env.globals _; rw [g.globals]; exact g.T.g.keeps ok.F.keep) (mg_of g.K g.T.g (by rw [hfn]; exact g.pg.ns j lt)) ?_) (by rw [hfn]; exact g.pg.dbg j lt)) (call_eval rfl)))))
  refine callWith_K (h₀ := c.h₀) g.K (g.pg.keep j lt) (args_cons (wpAny_Name (wpAny_loadName_local k xn' hn hm (args_cons (wpAny_Name (wpAny_loadName_cell k wn' hcl ⟨wo, (ok.xs _ _ hwx).1, hwd⟩ (args_nil ⟨g.K.keeps ok.F.keep, ?_⟩)) wd))) xd))
  refine hpure x c g w1.m s w1.D _ _ ok.F (fun a o e => (ok.ds a o e).1) (.cons hv (.cons (hwv.mono fun a o e => ex.D a o e) .nil)) fun h4 tk4 val N hk4 hN hval => args_nil ?_
  refine wpAny_newObj_type ?_ (by show (2 : Nat) ≤ sizeLine; decide)
  exact q _ tk4 _ _ (New.tup ⟨hk4, hN⟩ [.bool false, val]) (.tup (.inr (.inr ⟨rfl, rfl⟩)) (.cons (.bool _) (.cons (hval.mono fun _ _ h => h.imp id .inl) .nil)))
theorem SndE.comp {j i : Nat} {fn xn wn : Str} {sc : Scope} {it : PySem.Expr} {f : CE} {kk : Nat} {p0 p1 p2 p3 p4 p5 p6 p7 : Pos} (hs : ∀ v env, foldedSetIterable it env v = pure v) (hfn : fn = G.gn j) (hi : x.names[i]? = some wn) (wl : x.scope.names.lookup wn = some .cell)
    (b : ∀ (env : Env) (a : Addr), env.scope = x.scope → env.cells.lookup wn = some a → BlkOK sc env [(wn, a)] xn) (fn' : ∀ env : Env, env.scope = x.scope → (relabel sc env).names.lookup fn = some .globalImplicit) (wn' : ∀ env : Env, env.scope = x.scope → (relabel sc env).names.lookup wn = some .cell)
    (xd : (xn == ("__debug__" : Str)) = false) (a : SndE G x it f) :
    SndE G x (.ListComp (.Tuple [.Constant (.bool false) kk p0, .Call (.Name fn p1) [.Name xn p2, .Name wn p3] [] p4] 0 p5) [⟨.Name xn p6, it, [], 0⟩] sc p7) (cComp j i f) := ⟨rfl, fun d ca hc st k r h => by
  obtain ⟨wv, hw, h0⟩ := bo_some h
  obtain ⟨hwr, h0⟩ := yn_some h0
  obtain ⟨v, st1, s1, h1⟩ := a.snd d ca hc st _ r h0
  obtain ⟨xs, rfl, h2⟩ := asL_some h1
  obtain ⟨e1, h3⟩ := yn_none h2
  obtain ⟨tot, ht, h6⟩ := bo_some h3
  refine ⟨.lst tot, st1, fun c g w s Q ok q => ?_, h6⟩
  obtain ⟨wa, wo, wval, hcl, hwx, hwd, hwv⟩ := ok.cell hi (by show c.env.scope.names.lookup wn = _; rw [g.scope]; exact wl) hw
  have bo := b c.env wa g.scope hcl
  rw [eval_ListComp]
  refine wpAny_comprehension_free (use := none) rfl (fun v => hs v _) bo.clos bo.kind bo.names (s1 c g w s _ ok fun w1 h1 t1 val ok1 ex1 hv1 => ?_)
  obtain ⟨al, vs, n0, rfl, hal, hvs⟩ := hv1.lst_
  exact blk_run g bo (elt_call hc g hfn bo.kind bo.var (fn' _ g.scope) (wn' _ g.scope) xd (nb_of g hi) (by rw [List.lookup_cons, beq_self_eq_true]) hwx hwd ((hwv.frozen hwr).mono fun a o e => ex1.D a o e)) ok1 hal hvs (shortL_le hvs e1) ht fun w' h' tk val ok' ex hv => q w' h' tk val ok' (ex1.trans ex) hv⟩
/-- abs(int(x)) -/
theorem elt_abs {xn : Str} {sc : Scope} {p1 p2 p3 p4 p5 : Pos} (k : sc.kind = .function) (xd : (xn == ("__debug__" : Str)) = false)
    (na : nsIn G.K mainGlobals (Str.ofString "abs") = some none) (ni : nsIn G.K mainGlobals (Str.ofString "int") = some none)
    (b : ∀ env : Env, env.scope = x.scope → (relabel sc env).names.lookup xn = some .local ∧ (relabel sc env).names.lookup (Str.ofString "abs") = some .globalImplicit ∧ (relabel sc env).names.lookup (Str.ofString "int") = some .globalImplicit) :
    ∀ d c w st, Good G x d c → EltOK G x c w st (.Call (.Name (Str.ofString "abs") p1) [.Call (.Name (Str.ofString "int") p2) [.Name xn p3] [] p4] [] p5) (fun C => compEnvC sc [] C c.env) xn elA := fun d c w st g u r hu C uv m w1 s Q ex ok hn hm hv q => by
  obtain ⟨i, rfl, h1⟩ := asI_some hu
  cases h1
  cases hv with
  | int _ t =>
    obtain ⟨b1, b2, b3⟩ := b c.env g.scope
    have gl : ∀ {y : Str} {v : Value} {Q : Value → Shared → Prop}, nsIn G.K mainGlobals y = some none → bootBuiltins y = some v → y ≠ "__name__" → Q v s → wpAny (model G.prog G.w) c.A (loadGlobal (compEnvC sc [] C c.env) y) Q (fun _ _ => False) s := fun hm hb hn q =>
      loadGlobal_builtin (by show s.heap.Ns c.env.globals _; rw [g.globals]; exact g.T.g.keeps ok.F.keep) (mg_none_of g.K g.T.g hm) (by show s.heap.Ns c.env.builtins _; rw [g.builtins]; exact g.T.b.keeps ok.F.keep) ((g.T.builtins _ hn).trans hb) q
    refine Call_ (Name_function_global k b2 (gl na Boot.«abs» (by decide) ?_) (by decide)) (call_eval rfl)
    refine callWith_builtin rfl (args_run rfl (args_cons (Call_ (Name_function_global k b3 (gl ni Boot.«int» (by decide) ?_) (by decide)) (call_eval rfl))))
    refine PySem.callWith_type rfl (args_run rfl (args_cons (wpAny_Name (wpAny_loadName_local k b1 hn hm (args_nil (call_int_int (args_nil (call_abs_int fun u tk => ?_))))) xd)))
    refine q s.heap tk _ (fun _ _ => False) ⟨fun _ _ e => e, fun _ _ e => e.elim⟩ ?_
    have e : (if i < 0 then -i else i) = onI i (fun k => .ofNat k) fun k => .ofNat (Nat.succ k) := by
      cases i with
      | ofNat n => exact if_neg (Int.not_lt.mpr (Int.natCast_nonneg n))
      | negSucc n => exact (if_pos (Int.negSucc_lt_zero n)).trans rfl
    rw [e]
    exact .int _ _
end
end Mine

namespace Mine
open PySem PySem.W PySem.Calls PyProof.Rows
/-- the defs of the text -/
def defs : List Stmt → List Stmt
  | [] => []
  | s :: r => match s with
    | .FunctionDef .. => s :: defs r
    | _ => defs r
def bodyOf : Stmt → List Stmt
  | .FunctionDef _ _ b _ _ _ _ _ _ _ => b
  | _ => []
def scopeOf : Stmt → Scope
  | .FunctionDef _ _ _ _ _ _ sc _ _ _ => sc
  | _ => default
def nameOf : Stmt → Str
  | .FunctionDef n _ _ _ _ _ _ _ _ _ => n
  | _ => default
def argsOf : Stmt → Option Arguments
  | .FunctionDef _ a _ _ _ _ _ _ _ _ => some a
  | _ => none
def defK (k : Nat) : Stmt := (defs PySem.Challenge.pw_xm0389_01.main.body).getD k (.Pass default)
def own : List (Str × NameKind) → List Str
  | [] => []
  | (y, k) :: r => match k with
    | .local | .cell => y :: own r
    | _ => own r
def fx (k : Nat) : Fx := ⟨scopeOf (defK k), own (scopeOf (defK k)).names⟩
def gn0 (k : Nat) : Str := nameOf (defK k)
structure Gn (G : Pg) : Prop where
  gn : G.gn = gn0
  nf : G.nf = 35
  abs : nsIn G.K mainGlobals (Str.ofString "abs") = some none
  int : nsIn G.K mainGlobals (Str.ofString "int") = some none
section
variable {G : Pg} {x : Fx} {p : Pos}
theorem gnm (n : Gn G) {j : Nat} {y : Str} (hy : y = gn0 j) : y = G.gn j := by rw [n.gn]; exact hy
theorem gl (n : Gn G) {j : Nat} {y : Str} (hy : y = gn0 j) (hx : x.scope.names.lookup y = some .globalImplicit) (hj : Nat.ble (j + 1) 35 = true) : SndE G x (.Name y p) (cVal (.fn j)) := .glob (gnm n hy) hx (by rw [n.nf]; exact Nat.le_of_ble_eq_true hj)
def dm (sc : Scope) : Env := { scope := sc, locals := 0, globals := 0, cells := [], qual := default, func := none, code := .none, frame := none, builtins := 0 }
theorem sw {ts es : List PySem.Expr} {pt pv : Pos} {ys : List Str} (h : swappedStores [.Tuple ts 0 pt] (.Tuple es 0 pv) (dm x.scope) = pure (some ys)) : Swap x ts es pt pv ys := fun env e => by
  have q : swappedStores [.Tuple ts 0 pt] (.Tuple es 0 pv) env = swappedStores [.Tuple ts 0 pt] (.Tuple es 0 pv) (dm env.scope) := by
    unfold swappedStores
    rfl
  rw [q, e]; exact h
theorem swNo {ts es : List PySem.Expr} {pt pv : Pos} (h : swappedStores [.Tuple ts 0 pt] (.Tuple es 0 pv) (dm x.scope) = pure none) (env : Env) (e : env.scope = x.scope) : swappedStores [.Tuple ts 0 pt] (.Tuple es 0 pv) env = pure none := by
  have q : swappedStores [.Tuple ts 0 pt] (.Tuple es 0 pv) env = swappedStores [.Tuple ts 0 pt] (.Tuple es 0 pv) (dm env.scope) := by
    unfold swappedStores
    rfl
  rw [q, e]; exact h
end
end Mine

namespace Mine
open PySem PySem.W PySem.Calls PyProof.Rows
section
variable {G : Pg}
theorem s_normal (n : Gn G) : SndB G (fx 0) (bodyOf (defK 0)) c_normal :=
  (.seq (.asg rfl rfl rfl (.len rfl (.loc rfl))) (.seq (.whl (.and (.cmp .kGt (.loc rfl) (.int)) (.cmp .kEq (.sub (.loc rfl) (.bin .fSub (.loc rfl) (.int))) (.int))) (.seq (.aug rfl rfl .fSub (.int)) .nil)) (.seq (.ret (.slice (.loc rfl) .none (.some (.loc rfl)))) .nil)))
theorem s_compare (n : Gn G) : SndB G (fx 1) (bodyOf (defK 1)) c_compare :=
  (.seq (.ifs (.cmp .kNe (.len rfl (.loc rfl)) (.len rfl (.loc rfl))) (.seq (.ret (.ife (.cmp .kLt (.len rfl (.loc rfl)) (.len rfl (.loc rfl))) (.neg (.int)) (.int))) .nil) .nil) (.seq (.forR rfl rfl rfl (.cons (.bin .fSub (.len rfl (.loc rfl)) (.int)) (.cons (.neg (.int)) (.cons (.neg (.int)) .nil))) (.seq (.ifs (.cmp .kNe (.sub (.loc rfl) (.loc rfl)) (.sub (.loc rfl) (.loc rfl))) (.seq (.ret (.ife (.cmp .kLt (.sub (.loc rfl) (.loc rfl)) (.sub (.loc rfl) (.loc rfl))) (.neg (.int)) (.int))) .nil) .nil) .nil)) (.seq (.ret (.int)) .nil)))
theorem s_add (n : Gn G) : SndB G (fx 2) (bodyOf (defK 2)) c_add :=
  (.seq (.ifs (.cmp .kLt (.len rfl (.loc rfl)) (.len rfl (.loc rfl))) (.seq (.asgT2 rfl rfl rfl rfl (sw rfl) (.cons (.loc rfl) (.cons (.loc rfl) .nil))) .nil) .nil) (.seq (.asgT3 rfl rfl rfl rfl rfl rfl (sw rfl) (.cons (.lst .nil) (.cons (.int) (.cons (.bin .fSub (.bin .fShl (.int) (.loc rfl)) (.int)) .nil)))) (.seq (.forR rfl rfl rfl (.cons (.len rfl (.loc rfl)) .nil) (.seq (.aug rfl rfl .fAdd (.bin .fAdd (.sub (.loc rfl) (.loc rfl)) (.sub (.loc rfl) (.loc rfl)))) (.seq (.app rfl (fun _ => ⟨_, rfl⟩) (.bin .fAnd (.loc rfl) (.loc rfl))) (.seq (.aug rfl rfl .fShr (.loc rfl)) .nil)))) (.seq (.forR rfl rfl rfl (.cons (.len rfl (.loc rfl)) (.cons (.len rfl (.loc rfl)) .nil)) (.seq (.aug rfl rfl .fAdd (.sub (.loc rfl) (.loc rfl))) (.seq (.app rfl (fun _ => ⟨_, rfl⟩) (.bin .fAnd (.loc rfl) (.loc rfl))) (.seq (.aug rfl rfl .fShr (.loc rfl)) .nil)))) (.seq (.ifs (.cmp .kGt (.loc rfl) (.int)) (.seq (.app rfl (fun _ => ⟨_, rfl⟩) (.loc rfl)) .nil) .nil) (.seq (.ret (.loc rfl)) .nil))))))
theorem s_sub (n : Gn G) : SndB G (fx 3) (bodyOf (defK 3)) c_sub :=
  (.seq (.ifs (.cmp .kLt (.callP (gl n rfl rfl rfl) (.cons (.loc rfl) (.cons (.loc rfl) .nil))) (.int)) (.seq .no .nil) .nil) (.seq (.asgT3 rfl rfl rfl rfl rfl rfl (sw rfl) (.cons (.lst .nil) (.cons (.int) (.cons (.bin .fShl (.int) (.loc rfl)) .nil)))) (.seq (.forR rfl rfl rfl (.cons (.len rfl (.loc rfl)) .nil) (.seq (.asg rfl rfl rfl (.bin .fSub (.bin .fSub (.sub (.loc rfl) (.loc rfl)) (.loc rfl)) (.ife (.cmp .kLt (.loc rfl) (.len rfl (.loc rfl))) (.sub (.loc rfl) (.loc rfl)) (.int)))) (.seq (.asg rfl rfl rfl (.ife (.cmp .kLt (.loc rfl) (.int)) (.int) (.int))) (.seq (.app rfl (fun _ => ⟨_, rfl⟩) (.ife (.cmp .kLt (.loc rfl) (.int)) (.bin .fAdd (.loc rfl) (.loc rfl)) (.loc rfl))) .nil)))) (.seq (.ret (.callP (gl n rfl rfl rfl) (.cons (.loc rfl) .nil))) .nil))))
theorem s_add_limb (n : Gn G) : SndB G (fx 4) (bodyOf (defK 4)) c_add_limb :=
  (.seq (.asgT2 rfl rfl rfl rfl (sw rfl) (.cons (.lst .nil) (.cons (.bin .fSub (.bin .fShl (.int) (.loc rfl)) (.int)) .nil))) (.seq (.forL rfl rfl (fun _ _ => rfl) (.loc rfl) (.seq (.aug rfl rfl .fAdd (.loc rfl)) (.seq (.app rfl (fun _ => ⟨_, rfl⟩) (.bin .fAnd (.loc rfl) (.loc rfl))) (.seq (.aug rfl rfl .fShr (.loc rfl)) .nil)))) (.seq (.ifs (.cmp .kGt (.loc rfl) (.int)) (.seq (.app rfl (fun _ => ⟨_, rfl⟩) (.loc rfl)) .nil) .nil) (.seq (.ret (.loc rfl)) .nil))))
theorem s_divrem_limb (n : Gn G) : SndB G (fx 5) (bodyOf (defK 5)) c_divrem_limb :=
  (.seq (.ifs (.cmp .kEq (.loc rfl) (.int)) (.seq .no .nil) .nil) (.seq (.asgT2 rfl rfl rfl rfl (sw rfl) (.cons (.rep (.lst (.cons (.int) .nil)) (.len rfl (.loc rfl))) (.cons (.int) .nil))) (.seq (.forR rfl rfl rfl (.cons (.bin .fSub (.len rfl (.loc rfl)) (.int)) (.cons (.neg (.int)) (.cons (.neg (.int)) .nil))) (.seq (.asg rfl rfl rfl (.bin .fOr (.bin .fShl (.loc rfl) (.loc rfl)) (.sub (.loc rfl) (.loc rfl)))) (.seq (.asgS rfl rfl (.loc rfl) (.bin .fDiv (.loc rfl) (.loc rfl))) (.seq (.aug rfl rfl .fMod (.loc rfl)) .nil)))) (.seq (.ret (.tup (.cons (.callP (gl n rfl rfl rfl) (.cons (.loc rfl) .nil)) (.cons (.loc rfl) .nil)))) .nil))))
theorem s_shift_left (n : Gn G) : SndB G (fx 6) (bodyOf (defK 6)) c_shift_left :=
  (.seq (.ifs (.cmp .kEq (.len rfl (.loc rfl)) (.int)) (.seq (.ret (.lst .nil)) .nil) .nil) (.seq (.asgT2 rfl rfl rfl rfl (sw rfl) (.cons (.bin .fDiv (.loc rfl) (.loc rfl)) (.cons (.bin .fMod (.loc rfl) (.loc rfl)) .nil))) (.seq (.asgT3 rfl rfl rfl rfl rfl rfl (sw rfl) (.cons (.rep (.lst (.cons (.int) .nil)) (.loc rfl)) (.cons (.int) (.cons (.bin .fSub (.bin .fShl (.int) (.loc rfl)) (.int)) .nil)))) (.seq (.forL rfl rfl (fun _ _ => rfl) (.loc rfl) (.seq (.aug rfl rfl .fOr (.bin .fShl (.loc rfl) (.loc rfl))) (.seq (.app rfl (fun _ => ⟨_, rfl⟩) (.bin .fAnd (.loc rfl) (.loc rfl))) (.seq (.aug rfl rfl .fShr (.loc rfl)) .nil)))) (.seq (.ifs (.cmp .kGt (.loc rfl) (.int)) (.seq (.app rfl (fun _ => ⟨_, rfl⟩) (.loc rfl)) .nil) .nil) (.seq (.ret (.loc rfl)) .nil))))))
theorem s_shift_right (n : Gn G) : SndB G (fx 7) (bodyOf (defK 7)) c_shift_right :=
  (.seq (.asgT2 rfl rfl rfl rfl (sw rfl) (.cons (.bin .fDiv (.loc rfl) (.loc rfl)) (.cons (.bin .fMod (.loc rfl) (.loc rfl)) .nil))) (.seq (.asgT2 rfl rfl rfl rfl (sw rfl) (.cons (.lst .nil) (.cons (.bin .fSub (.bin .fShl (.int) (.loc rfl)) (.int)) .nil))) (.seq (.forR rfl rfl rfl (.cons (.loc rfl) (.cons (.len rfl (.loc rfl)) .nil)) (.seq (.asg rfl rfl rfl (.ife (.cmp .kLt (.bin .fAdd (.loc rfl) (.int)) (.len rfl (.loc rfl))) (.sub (.loc rfl) (.bin .fAdd (.loc rfl) (.int))) (.int))) (.seq (.app rfl (fun _ => ⟨_, rfl⟩) (.bin .fAnd (.bin .fOr (.bin .fShr (.sub (.loc rfl) (.loc rfl)) (.loc rfl)) (.bin .fShl (.loc rfl) (.bin .fSub (.loc rfl) (.loc rfl)))) (.loc rfl))) .nil))) (.seq (.ret (.callP (gl n rfl rfl rfl) (.cons (.loc rfl) .nil))) .nil))))
theorem s_bits (n : Gn G) : SndB G (fx 8) (bodyOf (defK 8)) c_bits :=
  (.seq (.ret (.ife (.cmp .kGt (.len rfl (.loc rfl)) (.int)) (.bin .fAdd (.bin .fMul (.bin .fSub (.len rfl (.loc rfl)) (.int)) (.loc rfl)) (.bits (fun _ => ⟨_, rfl⟩) (.sub (.loc rfl) (.neg (.int))))) (.int))) .nil)
theorem s_signed (n : Gn G) : SndB G (fx 9) (bodyOf (defK 9)) c_signed :=
  (.seq (.ret (.tup (.cons (.and (.loc rfl) (.cmp .kGt (.len rfl (.loc rfl)) (.int))) (.cons (.loc rfl) .nil)))) .nil)
theorem s_s_neg (n : Gn G) : SndB G (fx 10) (bodyOf (defK 10)) c_s_neg :=
  (.seq (.ret (.callP (gl n rfl rfl rfl) (.cons (.not (.sub (.loc rfl) (.int))) (.cons (.sub (.loc rfl) (.int)) .nil)))) .nil)
theorem s_s_add (n : Gn G) : SndB G (fx 11) (bodyOf (defK 11)) c_s_add :=
  (.seq (.ifs (.cmp .kEq (.sub (.loc rfl) (.int)) (.sub (.loc rfl) (.int))) (.seq (.ret (.callP (gl n rfl rfl rfl) (.cons (.sub (.loc rfl) (.int)) (.cons (.callP (gl n rfl rfl rfl) (.cons (.sub (.loc rfl) (.int)) (.cons (.sub (.loc rfl) (.int)) (.cons (.loc rfl) .nil)))) .nil)))) .nil) .nil) (.seq (.ifs (.cmp .kLt (.callP (gl n rfl rfl rfl) (.cons (.sub (.loc rfl) (.int)) (.cons (.sub (.loc rfl) (.int)) .nil))) (.int)) (.seq (.ret (.callP (gl n rfl rfl rfl) (.cons (.sub (.loc rfl) (.int)) (.cons (.callP (gl n rfl rfl rfl) (.cons (.sub (.loc rfl) (.int)) (.cons (.sub (.loc rfl) (.int)) (.cons (.loc rfl) .nil)))) .nil)))) .nil) .nil) (.seq (.ret (.callP (gl n rfl rfl rfl) (.cons (.sub (.loc rfl) (.int)) (.cons (.callP (gl n rfl rfl rfl) (.cons (.sub (.loc rfl) (.int)) (.cons (.sub (.loc rfl) (.int)) (.cons (.loc rfl) .nil)))) .nil)))) .nil)))
theorem s_s_mul (n : Gn G) : SndB G (fx 12) (bodyOf (defK 12)) c_s_mul :=
  (.seq (.ret (.callP (gl n rfl rfl rfl) (.cons (.cmp .kNe (.sub (.loc rfl) (.int)) (.sub (.loc rfl) (.int))) (.cons (.callP (.loc rfl) (.cons (.sub (.loc rfl) (.int)) (.cons (.sub (.loc rfl) (.int)) (.cons (.loc rfl) .nil)))) .nil)))) .nil)
theorem s_tdiv (n : Gn G) : SndB G (fx 13) (bodyOf (defK 13)) c_tdiv :=
  (.seq (.ifs (.cmp .kEq (.len rfl (.sub (.loc rfl) (.int))) (.int)) (.seq .no .nil) .nil) (.seq (.asgU2 rfl rfl rfl rfl rfl (fun _ => rfl) (.callP (.loc rfl) (.cons (.sub (.loc rfl) (.int)) (.cons (.sub (.loc rfl) (.int)) (.cons (.loc rfl) .nil))))) (.seq (.ret (.tup (.cons (.callP (gl n rfl rfl rfl) (.cons (.cmp .kNe (.sub (.loc rfl) (.int)) (.sub (.loc rfl) (.int))) (.cons (.loc rfl) .nil))) (.cons (.callP (gl n rfl rfl rfl) (.cons (.sub (.loc rfl) (.int)) (.cons (.loc rfl) .nil))) .nil)))) .nil)))
theorem s_fdiv (n : Gn G) : SndB G (fx 14) (bodyOf (defK 14)) c_fdiv :=
  (.seq (.asgU2 rfl rfl rfl rfl rfl (fun _ => rfl) (.callP (gl n rfl rfl rfl) (.cons (.loc rfl) (.cons (.loc rfl) (.cons (.loc rfl) (.cons (.loc rfl) .nil)))))) (.seq (.ifs (.and (.cmp .kGt (.len rfl (.sub (.loc rfl) (.int))) (.int)) (.cmp .kNe (.sub (.loc rfl) (.int)) (.sub (.loc rfl) (.int)))) (.seq (.ret (.tup (.cons (.tup (.cons (.bool) (.cons (.callP (gl n rfl rfl rfl) (.cons (.sub (.loc rfl) (.int)) (.cons (.int) (.cons (.loc rfl) .nil)))) .nil))) (.cons (.callP (gl n rfl rfl rfl) (.cons (.loc rfl) (.cons (.loc rfl) (.cons (.loc rfl) .nil)))) .nil)))) .nil) .nil) (.seq (.ret (.tup (.cons (.loc rfl) (.cons (.loc rfl) .nil)))) .nil)))
theorem s_common (n : Gn G) : SndB G (fx 15) (bodyOf (defK 15)) c_common :=
  (.seq (.whl (.cmp .kGt (.len rfl (.loc rfl)) (.int)) (.seq (.asgT2 rfl rfl rfl rfl (sw rfl) (.cons (.loc rfl) (.cons (.sub (.callP (.loc rfl) (.cons (.loc rfl) (.cons (.loc rfl) (.cons (.loc rfl) .nil)))) (.int)) .nil))) .nil)) (.seq (.ret (.callP (gl n rfl rfl rfl) (.cons (.loc rfl) .nil))) .nil))
theorem s_cut_signed (n : Gn G) : SndB G (fx 16) (bodyOf (defK 16)) c_cut_signed :=
  (.seq (.ret (.tup (.cons (.sub (.loc rfl) (.int)) (.cons (.sub (.callP (.loc rfl) (.cons (.sub (.loc rfl) (.int)) (.cons (.loc rfl) (.cons (.loc rfl) .nil)))) (.int)) .nil)))) .nil)
theorem s_signed_of (n : Gn G) : SndB G (fx 17) (bodyOf (defK 17)) c_signed_of :=
  (.seq (.ret (.tup (.cons (.bool) (.cons (.loc rfl) .nil)))) .nil)
theorem s_r_neg (n : Gn G) : SndB G (fx 18) (bodyOf (defK 18)) c_r_neg :=
  (.seq (.ret (.tup (.cons (.callP (gl n rfl rfl rfl) (.cons (.sub (.loc rfl) (.int)) .nil)) (.cons (.sub (.loc rfl) (.int)) .nil)))) .nil)
theorem s_r_add (n : Gn G) : SndB G (fx 19) (bodyOf (defK 19)) c_r_add :=
  (.seq (.asg rfl rfl rfl (.callP (gl n rfl rfl rfl) (.cons (.sub (.loc rfl) (.int)) (.cons (.sub (.loc rfl) (.int)) (.cons (.loc rfl) (.cons (.loc rfl) .nil)))))) (.seq (.asgT2 rfl rfl rfl rfl (sw rfl) (.cons (.sub (.callP (.loc rfl) (.cons (.sub (.loc rfl) (.int)) (.cons (.loc rfl) (.cons (.loc rfl) .nil)))) (.int)) (.cons (.sub (.callP (.loc rfl) (.cons (.sub (.loc rfl) (.int)) (.cons (.loc rfl) (.cons (.loc rfl) .nil)))) (.int)) .nil))) (.seq (.asg rfl rfl rfl (.callP (gl n rfl rfl rfl) (.cons (.callP (gl n rfl rfl rfl) (.cons (.sub (.loc rfl) (.int)) (.cons (.callP (gl n rfl rfl rfl) (.cons (.loc rfl) .nil)) (.cons (.loc rfl) (.cons (.loc rfl) .nil))))) (.cons (.callP (gl n rfl rfl rfl) (.cons (.sub (.loc rfl) (.int)) (.cons (.callP (gl n rfl rfl rfl) (.cons (.loc rfl) .nil)) (.cons (.loc rfl) (.cons (.loc rfl) .nil))))) (.cons (.loc rfl) .nil))))) (.seq (.ifs (.cmp .kEq (.len rfl (.sub (.loc rfl) (.int))) (.int)) (.seq (.ret (.tup (.cons (.loc rfl) (.cons (.lst (.cons (.int) .nil)) .nil)))) .nil) .nil) (.seq (.asg rfl rfl rfl (.callP (gl n rfl rfl rfl) (.cons (.sub (.loc rfl) (.int)) (.cons (.loc rfl) (.cons (.loc rfl) (.cons (.loc rfl) .nil)))))) (.seq (.ret (.tup (.cons (.callP (gl n rfl rfl rfl) (.cons (.loc rfl) (.cons (.loc rfl) (.cons (.loc rfl) (.cons (.loc rfl) .nil))))) (.cons (.callP (.loc rfl) (.cons (.loc rfl) (.cons (.sub (.callP (.loc rfl) (.cons (.sub (.loc rfl) (.int)) (.cons (.loc rfl) (.cons (.loc rfl) .nil)))) (.int)) (.cons (.loc rfl) .nil)))) .nil)))) .nil))))))
theorem s_r_sub (n : Gn G) : SndB G (fx 20) (bodyOf (defK 20)) c_r_sub :=
  (.seq (.ret (.callP (gl n rfl rfl rfl) (.cons (.loc rfl) (.cons (.callP (gl n rfl rfl rfl) (.cons (.loc rfl) .nil)) (.cons (.loc rfl) (.cons (.loc rfl) (.cons (.loc rfl) .nil))))))) .nil)
theorem s_r_inverse (n : Gn G) : SndB G (fx 21) (bodyOf (defK 21)) c_r_inverse :=
  (.seq (.ifs (.cmp .kEq (.len rfl (.sub (.sub (.loc rfl) (.int)) (.int))) (.int)) (.seq .no .nil) .nil) (.seq (.ret (.tup (.cons (.tup (.cons (.sub (.sub (.loc rfl) (.int)) (.int)) (.cons (.sub (.loc rfl) (.int)) .nil))) (.cons (.sub (.sub (.loc rfl) (.int)) (.int)) .nil)))) .nil))
theorem s_continued (n : Gn G) : SndB G (fx 22) (bodyOf (defK 22)) c_continued :=
  (.seq (.asgT3 rfl rfl rfl rfl rfl rfl (sw rfl) (.cons (.lst .nil) (.cons (.sub (.loc rfl) (.int)) (.cons (.callP (gl n rfl rfl rfl) (.cons (.sub (.loc rfl) (.int)) .nil)) .nil)))) (.seq (.whl (.cmp .kGt (.len rfl (.sub (.loc rfl) (.int))) (.int)) (.seq (.asgU2 rfl rfl rfl rfl rfl (fun _ => rfl) (.callP (gl n rfl rfl rfl) (.cons (.loc rfl) (.cons (.loc rfl) (.cons (.loc rfl) (.cons (.loc rfl) .nil)))))) (.seq (.app rfl (fun _ => ⟨_, rfl⟩) (.loc rfl)) (.seq (.asgT2 rfl rfl rfl rfl (sw rfl) (.cons (.loc rfl) (.cons (.loc rfl) .nil))) .nil)))) (.seq (.ret (.loc rfl)) .nil)))
theorem s_mul_school (n : Gn G) : SndB G (fx 23) (bodyOf (defK 23)) c_mul_school :=
  (.seq (.asgT2 rfl rfl rfl rfl (sw rfl) (.cons (.rep (.lst (.cons (.int) .nil)) (.bin .fAdd (.len rfl (.loc rfl)) (.len rfl (.loc rfl)))) (.cons (.bin .fSub (.bin .fShl (.int) (.loc rfl)) (.int)) .nil))) (.seq (.forE rfl rfl rfl rfl rfl (.loc rfl) (.seq (.asg rfl rfl rfl (.int)) (.seq (.forE rfl rfl rfl rfl rfl (.loc rfl) (.seq (.aug rfl rfl .fAdd (.bin .fAdd (.sub (.loc rfl) (.bin .fAdd (.loc rfl) (.loc rfl))) (.bin .fMul (.loc rfl) (.loc rfl)))) (.seq (.asgS rfl rfl (.bin .fAdd (.loc rfl) (.loc rfl)) (.bin .fAnd (.loc rfl) (.loc rfl))) (.seq (.aug rfl rfl .fShr (.loc rfl)) .nil)))) (.seq (.asgS rfl rfl (.bin .fAdd (.loc rfl) (.len rfl (.loc rfl))) (.loc rfl)) .nil)))) (.seq (.ret (.callP (gl n rfl rfl rfl) (.cons (.loc rfl) .nil))) .nil)))
theorem s_divrem_small (n : Gn G) : SndB G (fx 24) (bodyOf (defK 24)) c_divrem_small :=
  (.seq (.asgU2 rfl rfl rfl rfl rfl (fun _ => rfl) (.callP (gl n rfl rfl rfl) (.cons (.loc rfl) (.cons (.sub (.loc rfl) (.int)) (.cons (.loc rfl) .nil))))) (.seq (.ret (.tup (.cons (.loc rfl) (.cons (.ife (.cmp .kGt (.loc rfl) (.int)) (.lst (.cons (.loc rfl) .nil)) (.lst .nil)) .nil)))) .nil))
theorem s_guessed_limb (n : Gn G) : SndB G (fx 25) (bodyOf (defK 25)) c_guessed_limb :=
  (.seq (.asgT2 rfl rfl rfl rfl (sw rfl) (.cons (.bin .fOr (.bin .fShl (.sub (.loc rfl) (.int)) (.loc rfl)) (.sub (.loc rfl) (.int))) (.cons (.bin .fShl (.int) (.loc rfl)) .nil))) (.seq (.asg rfl rfl rfl (.min rfl (.bin .fDiv (.loc rfl) (.loc rfl)) (.bin .fSub (.loc rfl) (.int)))) (.seq (.asg rfl rfl rfl (.bin .fSub (.loc rfl) (.bin .fMul (.loc rfl) (.loc rfl)))) (.seq (.whl (.and (.cmp .kLt (.loc rfl) (.loc rfl)) (.cmp .kGt (.bin .fMul (.loc rfl) (.loc rfl)) (.bin .fOr (.bin .fShl (.loc rfl) (.loc rfl)) (.sub (.loc rfl) (.int))))) (.seq (.aug rfl rfl .fSub (.int)) (.seq (.aug rfl rfl .fAdd (.loc rfl)) .nil))) (.seq (.ret (.loc rfl)) .nil)))))
theorem s_take_away (n : Gn G) : SndB G (fx 26) (bodyOf (defK 26)) c_take_away :=
  (.seq (.asgT2 rfl rfl rfl rfl (sw rfl) (.cons (.int) (.cons (.bin .fShl (.int) (.loc rfl)) .nil))) (.seq (.forE rfl rfl rfl rfl rfl (.loc rfl) (.seq (.asg rfl rfl rfl (.bin .fSub (.sub (.loc rfl) (.bin .fAdd (.loc rfl) (.loc rfl))) (.bin .fMod (.bin .fAdd (.bin .fMul (.loc rfl) (.loc rfl)) (.loc rfl)) (.loc rfl)))) (.seq (.asg rfl rfl rfl (.bin .fAdd (.bin .fDiv (.bin .fAdd (.bin .fMul (.loc rfl) (.loc rfl)) (.loc rfl)) (.loc rfl)) (.ife (.cmp .kLt (.loc rfl) (.int)) (.int) (.int)))) (.seq (.asgS rfl rfl (.bin .fAdd (.loc rfl) (.loc rfl)) (.ife (.cmp .kLt (.loc rfl) (.int)) (.bin .fAdd (.loc rfl) (.loc rfl)) (.loc rfl))) .nil)))) (.seq (.asg rfl rfl rfl (.bin .fSub (.sub (.loc rfl) (.bin .fAdd (.loc rfl) (.len rfl (.loc rfl)))) (.loc rfl))) (.seq (.asgS rfl rfl (.bin .fAdd (.loc rfl) (.len rfl (.loc rfl))) (.ife (.cmp .kLt (.loc rfl) (.int)) (.bin .fAdd (.loc rfl) (.loc rfl)) (.loc rfl))) (.seq (.ret (.ife (.cmp .kLt (.loc rfl) (.int)) (.int) (.int))) .nil)))))
theorem s_put_back (n : Gn G) : SndB G (fx 27) (bodyOf (defK 27)) c_put_back :=
  (.seq (.asgT2 rfl rfl rfl rfl (sw rfl) (.cons (.int) (.cons (.bin .fSub (.bin .fShl (.int) (.loc rfl)) (.int)) .nil))) (.seq (.forE rfl rfl rfl rfl rfl (.loc rfl) (.seq (.aug rfl rfl .fAdd (.bin .fAdd (.sub (.loc rfl) (.bin .fAdd (.loc rfl) (.loc rfl))) (.loc rfl))) (.seq (.asgS rfl rfl (.bin .fAdd (.loc rfl) (.loc rfl)) (.bin .fAnd (.loc rfl) (.loc rfl))) (.seq (.aug rfl rfl .fShr (.loc rfl)) .nil)))) (.seq (.asgS rfl rfl (.bin .fAdd (.loc rfl) (.len rfl (.loc rfl))) (.bin .fAnd (.bin .fAdd (.sub (.loc rfl) (.bin .fAdd (.loc rfl) (.len rfl (.loc rfl)))) (.loc rfl)) (.loc rfl))) .nil)))
theorem s_divide_rows (n : Gn G) : SndB G (fx 28) (bodyOf (defK 28)) c_divide_rows :=
  (.seq (.asg rfl rfl rfl (.len rfl (.loc rfl))) (.seq (.asg rfl rfl rfl (.rep (.lst (.cons (.int) .nil)) (.bin .fSub (.len rfl (.loc rfl)) (.loc rfl)))) (.seq (.forR rfl rfl rfl (.cons (.bin .fSub (.bin .fSub (.len rfl (.loc rfl)) (.loc rfl)) (.int)) (.cons (.neg (.int)) (.cons (.neg (.int)) .nil))) (.seq (.asg rfl rfl rfl (.callP (gl n rfl rfl rfl) (.cons (.slice (.loc rfl) (.some (.bin .fSub (.bin .fAdd (.loc rfl) (.loc rfl)) (.int))) (.some (.bin .fAdd (.bin .fAdd (.loc rfl) (.loc rfl)) (.int)))) (.cons (.sub (.loc rfl) (.bin .fSub (.loc rfl) (.int))) (.cons (.sub (.loc rfl) (.bin .fSub (.loc rfl) (.int))) (.cons (.loc rfl) .nil)))))) (.seq (.ifs (.cmp .kEq (.callI (gl n rfl rfl rfl) (.cons (.loc rfl) (.cons (.loc rfl) (.cons (.loc rfl) (.cons (.loc rfl) (.cons (.loc rfl) .nil)))))) (.int)) (.seq (.aug rfl rfl .fSub (.int)) (.seq .no .nil)) .nil) (.seq (.asgS rfl rfl (.loc rfl) (.loc rfl)) .nil)))) (.seq (.ret (.loc rfl)) .nil))))
theorem s_divrem_school (n : Gn G) : SndB G (fx 29) (bodyOf (defK 29)) c_divrem_school :=
  (.seq (.ifs (.cmp .kEq (.len rfl (.loc rfl)) (.int)) (.seq .no .nil) .nil) (.seq (.ifs (.cmp .kLt (.callP (gl n rfl rfl rfl) (.cons (.loc rfl) (.cons (.loc rfl) .nil))) (.int)) (.seq (.ret (.tup (.cons (.lst .nil) (.cons (.slice (.loc rfl) .none .none) .nil)))) .nil) .nil) (.seq (.ifs (.cmp .kEq (.len rfl (.loc rfl)) (.int)) (.seq (.ret (.callP (gl n rfl rfl rfl) (.cons (.loc rfl) (.cons (.loc rfl) (.cons (.loc rfl) .nil))))) .nil) .nil) (.seq (.asg rfl rfl rfl (.bin .fSub (.loc rfl) (.callP (gl n rfl rfl rfl) (.cons (.lst (.cons (.sub (.loc rfl) (.neg (.int))) .nil)) (.cons (.loc rfl) .nil))))) (.seq (.asg rfl rfl rfl (.callP (gl n rfl rfl rfl) (.cons (.loc rfl) (.cons (.loc rfl) (.cons (.loc rfl) .nil))))) (.seq (.asg rfl rfl rfl (.callP (gl n rfl rfl rfl) (.cons (.loc rfl) (.cons (.loc rfl) (.cons (.loc rfl) .nil))))) (.seq (.asg rfl rfl rfl (.cat (.loc rfl) (.rep (.lst (.cons (.int) .nil)) (.bin .fSub (.bin .fAdd (.len rfl (.loc rfl)) (.int)) (.len rfl (.loc rfl)))))) (.seq (.asg rfl rfl rfl (.callI (gl n rfl rfl rfl) (.cons (.loc rfl) (.cons (.loc rfl) (.cons (.loc rfl) .nil))))) (.seq (.ret (.tup (.cons (.callP (gl n rfl rfl rfl) (.cons (.loc rfl) .nil)) (.cons (.callP (gl n rfl rfl rfl) (.cons (.callP (gl n rfl rfl rfl) (.cons (.loc rfl) .nil)) (.cons (.loc rfl) (.cons (.loc rfl) .nil)))) .nil)))) .nil)))))))))
theorem s_law_strolled (n : Gn G) : SndB G (fx 30) (bodyOf (defK 30)) c_law_strolled :=
  (.seq (.asgS rfl rfl (.int) (.bin .fAdd (.sub (.loc rfl) (.int)) (.int))) (.seq (.ifs (.cmp .kLe (.sub (.loc rfl) (.int)) (.len rfl (.sub (.loc rfl) (.int)))) (.seq (.ret (.bin .fMod (.sub (.sub (.loc rfl) (.int)) (.bin .fSub (.sub (.loc rfl) (.int)) (.int))) (.loc rfl))) .nil) .nil) (.seq (.ret (.bin .fMod (.bin .fAdd (.bin .fAdd (.bin .fMul (.int) (.sub (.loc rfl) (.int))) (.bin .fDiv (.sub (.loc rfl) (.int)) (.int))) (.int)) (.loc rfl))) .nil)))
theorem s_law_limbs (n : Gn G) : SndB G (fx 31) (bodyOf (defK 31)) c_law_limbs :=
  (.seq (.asg rfl rfl rfl (.lst .nil)) (.seq (.whl (.cmp .kGt (.loc rfl) (.int)) (.seq (.app rfl (fun _ => ⟨_, rfl⟩) (.bin .fMod (.loc rfl) (.bin .fPow (.int) (.loc rfl)))) (.seq (.asg rfl rfl rfl (.bin .fDiv (.loc rfl) (.bin .fPow (.int) (.loc rfl)))) .nil))) (.seq (.ret (.loc rfl)) .nil)))
theorem s_law_ways (n : Gn G) : SndB G (fx 32) (bodyOf (defK 32)) c_law_ways :=
  (.seq (.ifs (.cmp .kLt (.loc rfl) (.int)) (.seq (.ret (.int)) .nil) .nil) (.seq (.ifs (.cmp .kEq (.bin .fMod (.loc rfl) (.int)) (.int)) (.seq (.ret (.callP (gl n rfl rfl rfl) (.cons (.bin .fDiv (.loc rfl) (.int)) .nil))) .nil) .nil) (.seq (.ret (.bin .fAdd (.callP (gl n rfl rfl rfl) (.cons (.bin .fDiv (.loc rfl) (.int)) .nil)) (.callP (gl n rfl rfl rfl) (.cons (.bin .fSub (.bin .fDiv (.loc rfl) (.int)) (.int)) .nil)))) .nil)))
theorem s_law_there (n : Gn G) : SndB G (fx 33) (bodyOf (defK 33)) c_law_there :=
  (.seq (.ret (.tup (.cons (.tup (.cons (.bool) (.cons (.callP (gl n rfl rfl rfl) (.cons (.callP (gl n rfl rfl rfl) (.cons (.loc rfl) .nil)) (.cons (.loc rfl) .nil))) .nil))) (.cons (.callP (gl n rfl rfl rfl) (.cons (.callP (gl n rfl rfl rfl) (.cons (.bin .fAdd (.loc rfl) (.int)) .nil)) (.cons (.loc rfl) .nil))) .nil)))) .nil)
theorem s_law_runs (n : Gn G) : SndB G (fx 34) (bodyOf (defK 34)) c_law_runs :=
  (.seq (.asgT2 rfl rfl rfl rfl (sw rfl) (.cons (.lst (.cons (.int) .nil)) (.cons (.int) .nil))) (.seq (.whl (.cmp .kGt (.loc rfl) (.int)) (.seq (.ifs (.cmp .kNe (.bin .fMod (.loc rfl) (.int)) (.loc rfl)) (.seq (.asgT2 rfl rfl rfl rfl (sw rfl) (.cons (.cat (.loc rfl) (.lst (.cons (.int) .nil))) (.cons (.bin .fSub (.int) (.loc rfl)) .nil))) .nil) .nil) (.seq (.asgS rfl rfl (.neg (.int)) (.bin .fAdd (.sub (.loc rfl) (.neg (.int))) (.int))) (.seq (.asg rfl rfl rfl (.bin .fDiv (.loc rfl) (.int))) .nil)))) (.seq (.ret (.ife (.and (.cmp .kGt (.len rfl (.loc rfl)) (.int)) (.cmp .kEq (.sub (.loc rfl) (.neg (.int))) (.int))) (.cat (.slice (.loc rfl) .none (.some (.neg (.int)))) (.lst (.cons (.bin .fAdd (.sub (.loc rfl) (.neg (.int))) (.int)) .nil))) (.loc rfl))) .nil)))
end
end Mine

namespace Mine
open PySem
/-- the same tree, n deep at most -/
noncomputable def eqLs (f : V → V → Bool) (l : List V) : List V → Bool := @List.rec V (fun _ => List V → Bool) (fun m => @List.rec V (fun _ => Bool) true (fun _ _ _ => false) m)
  (fun a _ ih m => @List.rec V (fun _ => Bool) false (fun b r _ => yn (f a b) false (ih r)) m) l
noncomputable def eqN (n : Nat) : V → V → Bool := @Nat.rec (fun _ => V → V → Bool) (fun _ _ => false)
  (fun _ ih a b => onV a (fun i => onV b (fun j => ieq i j) (fun _ => false) (fun _ => false) (fun _ => false) (fun _ => false) (fun _ => false))
    (fun p => onV b (fun _ => false) (fun q => yn p (yn q true false) q) (fun _ => false) (fun _ => false) (fun _ => false) (fun _ => false)) (fun _ => false)
    (fun xs => onV b (fun _ => false) (fun _ => false) (fun _ => false) (fun ys => eqLs ih xs ys) (fun _ => false) (fun _ => false))
    (fun xs => onV b (fun _ => false) (fun _ => false) (fun _ => false) (fun _ => false) (fun ys => eqLs ih xs ys) (fun _ => false)) (fun _ => false)) n
noncomputable def ca : Ca := cas (fun _ _ => none) ft 40
noncomputable def I (n : Nat) : V := .int (.ofNat n)
noncomputable def oneV : V := .tup [.tup [.bool false, .lst [I 1]], .lst [I 1]]
noncomputable def stT (w p : Nat) (zv h : V) : St := ⟨[none, none, some (I w), none, some oneV, some zv, some h, some (I p), none, none, none], [], 1⟩
noncomputable def kT (w p : Nat) (h2 : V) (st : St) : RR := bo (setL st.lm 7 (I (Nat.succ p))) fun l => bo (getL l 2) fun a => bo (getL l 4) fun b => bo (getL l 5) fun z => bo (getL l 6) fun h' =>
  yn (eqN 8 a (I w)) none (yn (eqN 8 b oneV) none (yn (eqN 8 h' h2) none (yn (Nat.beq st.nx 1) none (bo (eqO h2 h2) fun q => yn q none (some (.bool true, [(0, [z])], 0))))))
noncomputable def turnRun (w p : Nat) (zv : V) : RR := bo (ca.pure 33 [I p, I w]) fun h => bo (eqO h h) fun q => yn q none (bo (ca.pure 33 [I (Nat.succ p), I w]) fun h2 => c_lawBody ca (stT w p zv h) (kT w p h2))
def Turn (w p : Nat) : Prop := ∀ zv, turnRun w p zv = some (.bool true, [(0, [zv])], 0)
end Mine

namespace Mine
open PySem PySem.W PySem.Calls PyProof.Rows

section
variable {G : Pg} {x : Fx} {d : Nat} {ca : Ca}
theorem SndR.eq {es : List PySem.Expr} {fs : List CE} (a : SndR G x es fs) (hc : SndCa G d ca) {st st0 : St} {vs : List V} (h : ∀ k, evR ca fs st k = k vs st0) : StepR G x d es st vs st0 := by
  classical
  obtain ⟨vs', st', s, e⟩ := a.snd d ca hc st (fun a b => if a = vs ∧ b = st0 then some (.bool true, [], 0) else none) (.bool true, [], 0) (by rw [h]; exact if_pos ⟨rfl, rfl⟩)
  by_cases q : vs' = vs ∧ st' = st0
  · obtain ⟨rfl, rfl⟩ := q; exact s
  · have := e.symm.trans (if_neg q); cases this
/-- a statement that goes on, or gives true back -/
def OnOr (P : Fl → St → Prop) (C : St → Prop) : Prop := (∃ st', P .nxt st' ∧ C st') ∨ ∃ st', P (.ret (.bool true)) st'
theorem SndS.eq {s : Stmt} {f : CS} (a : SndS G x s f) (hc : SndCa G d ca) {st st0 : St} (h : ∀ k, f ca st k = k st0) : OnOr (StepS G x d s st) (· = st0) := by
  classical
  rcases a d ca hc st (fun b => if b = st0 then some (.bool true, [], 0) else none) (.bool true, [], 0) (by rw [h]; exact if_pos rfl) with ⟨st', s, e⟩ | ⟨v, st', s, e⟩
  · by_cases q : st' = st0
    · exact .inl ⟨st', s, q⟩
    · have := e.symm.trans (if_neg q); cases this
  · injection e with e1 e2; subst e1; exact .inr ⟨st', s⟩
theorem StepB.weaken {ss : List Stmt} {st st0 st' : St} {f : Fl} (s : StepB G x d ss st0 f st') (h1 : ∀ i v, getL st0.lm i = some v → getL st.lm i = some v) (h2 : st0.hp = []) (h3 : st0.nx = st.nx) : StepB G x d ss st f st' := fun c g w sh Q ok q =>
  s c g { w with led := [] } sh Q { F := ok.F, xs := ok.xs, ds := ok.ds, xd := ok.xd, d0 := ok.d0, ls := fun _ h => (nomatch h), an := .nil, kn := .nil, kl := fun _ h => (nomatch h), lr := by rw [h2]; exact .nil
                                    lm := fun i v e => by
                                      obtain ⟨y, val, a, b, c'⟩ := ok.lm i v (h1 i v e)
                                      refine ⟨y, val, a, ?_, c'⟩
                                      cases v with
                                      | ref n => exact ⟨h3 ▸ b.1, fun _ h => (nomatch h)⟩
                                      | _ => exact b }
    fun w' h' tk fl ok' ex hf => q w' h' tk fl ok' ⟨ex.D, h3 ▸ ex.nx, fun e he l => by
      obtain ⟨_, h, _⟩ := ex.led e he (h3.symm ▸ l)
      cases h⟩ hf

/- trees -/
theorem eqLs_eq {f : V → V → Bool} (hf : ∀ a b, f a b = true → a = b) : ∀ {l m : List V}, eqLs f l m = true → l = m
  | [], [], _ => rfl
  | [], _ :: _, h => by cases h
  | _ :: _, [], h => by cases h
  | a :: l, b :: m, h => by
    have h0 : yn (f a b) false (eqLs f l m) = true := h
    cases q : f a b with
    | false => rw [q] at h0; cases h0
    | true => rw [q] at h0; rw [hf a b q, eqLs_eq hf h0]
theorem eqN_eq : ∀ (n : Nat) {a b : V}, eqN n a b = true → a = b
  | 0, _, _, h => by cases h
  | n + 1, a, b, h => by
    have hl : ∀ {l m : List V}, eqLs (eqN n) l m = true → l = m := eqLs_eq fun a b => eqN_eq n
    cases a <;> cases b <;> first
      | (cases h; done)
      | (rw [ieq_true h])
      | (rename_i p q; cases p <;> cases q <;> first | rfl | cases h)
      | (rw [hl h])
end

/- the law's own text -/
def lawS (i : Nat) : Stmt := (bodyOf (defK 35)).getD i (.Pass default)
def lawLoop : List Stmt := match lawS 4 with
  | .For _ _ b _ _ => b
  | _ => []
def lawArgs : List PySem.Expr := match lawS 4 with
  | .For _ (.Call _ as _ _) _ _ _ => as
  | _ => []
noncomputable abbrev c_law2 : CS := sAsg 5 (cBin fAdd (cBin fAdd (cLoc 3) (cVal (.int 1))) (cCallI (cVal (.fn 30)) [(cLoc 1), (cVal (.int 6))]))
noncomputable abbrev c_law3 : CS := sAsg 6 (cCallP (cVal (.fn 33)) [(cLoc 3), (cLoc 2)])
noncomputable abbrev c_law5 : CS := sSeq (sRet (cCmp kEq (cLoc 6) (cCallP (cVal (.fn 33)) [(cLoc 5), (cLoc 2)]))) sNil
theorem blkLaw {x : Fx} {env : Env} {a : Addr} {sc : Scope} (h1 : env.scope = x.scope) (h2 : env.cells.lookup (Str.ofString "w") = some a) (k : sc.kind = .function) (cell : ∀ y ∈ sc.names, y.2 ≠ .cell) (names : ∀ y ∈ sc.names, y.2 = .local → sc.names.lookup y.1 = some .local)
    (clos : ∀ cs a, List.lookup (Str.ofString "w") cs = some a → closureFor sc { env with cells := cs } = pure [(Str.ofString "w", a)]) (var : (relabel sc (dm x.scope)).names.lookup (Str.ofString "run") = some .local) : BlkOK sc env [(Str.ofString "w", a)] (Str.ofString "run") :=
  ⟨k, cell, names, clos env.cells a h2, by show (relabel sc (dm env.scope)).names.lookup _ = _; rw [h1]; exact var⟩
theorem closLaw {cs : List (Str × Addr)} {a : Addr} {env : Env} {g : Bool} {c : Bool} (h : List.lookup (Str.ofString "w") cs = some a) :
    closureFor { kind := ScopeKind.function, names := [(Str.ofString ".0", .local), (Str.ofString "run", .local), (Str.ofString "_law_limbs", .globalImplicit), (Str.ofString "w", .free)], isGenerator := g, isCoroutine := c } { env with cells := cs } = pure [(Str.ofString "w", a)] := by
  have e : cellOf { env with cells := cs } (Str.ofString "w") = pure a := by unfold cellOf; rw [h]
  unfold closureFor
  simp only [List.forIn_cons, List.forIn_nil, e]
  rfl
theorem relOf {x : Fx} {env : Env} {sc : Scope} {y : Str} {k : NameKind} (h : env.scope = x.scope) (e : (relabel sc (dm x.scope)).names.lookup y = some k) : (relabel sc env).names.lookup y = some k := by
  show (relabel sc (dm env.scope)).names.lookup _ = _; rw [h]; exact e
section
variable {G : Pg}
theorem s_law2 (n : Gn G) : SndS G (fx 35) (lawS 2) c_law2 := (.asg rfl rfl rfl (.bin .fAdd (.bin .fAdd (.loc rfl) (.int)) (.callI (gl n rfl rfl rfl) (.cons (.loc rfl) (.cons (.int) .nil)))))
theorem s_law3 (n : Gn G) : SndS G (fx 35) (lawS 3) c_law3 := (.asg rfl rfl rfl (.callP (gl n rfl rfl rfl) (.cons (.loc rfl) (.cons (.loc rfl) .nil))))
theorem s_lawBody (n : Gn G) : SndB G (fx 35) lawLoop c_lawBody :=
  (.seq (.ifs (.cmp .kNe (.loc rfl) (.callP (gl n rfl rfl rfl) (.cons (.loc rfl) (.cons (.loc rfl) .nil)))) (.seq (.ret (.bool)) .nil) .nil) (.seq (.asg rfl rfl rfl (.callP (gl n rfl rfl rfl) (.cons (.loc rfl) (.cons (.loc rfl) (.cons (gl n rfl rfl rfl) .nil))))) (.seq (.ifs (.cmp .kNe (.loc rfl) (.comp (fun _ _ => rfl) (gnm n rfl) rfl rfl (fun _ _ h1 h2 => blkLaw h1 h2 rfl (by decide) (by decide) (fun _ _ h => closLaw h) rfl) (fun _ h => relOf h rfl) (fun _ h => relOf h rfl) rfl (.callP (gl n rfl rfl rfl) (.cons (.bin .fAdd (.loc rfl) (.int)) .nil)))) (.seq (.ret (.bool)) .nil) .nil) (.seq (.ifs (.cmp .kNe (.callP (gl n rfl rfl rfl) (.cons (.loc rfl) (.cons (.loc rfl) (.cons (.loc rfl) (.cons (gl n rfl rfl rfl) (.cons (gl n rfl rfl rfl) .nil)))))) (.callP (gl n rfl rfl rfl) (.cons (.bin .fAdd (.bin .fMul (.int) (.loc rfl)) (.int)) (.cons (.loc rfl) .nil)))) (.seq (.ret (.bool)) .nil) .nil) (.seq (.asg rfl rfl rfl (.callP (gl n rfl rfl rfl) (.cons (.callP (gl n rfl rfl rfl) (.cons (.callP (gl n rfl rfl rfl) (.cons (.loc rfl) .nil)) (.cons (.loc rfl) (.cons (.loc rfl) (.cons (gl n rfl rfl rfl) (.cons (gl n rfl rfl rfl) .nil)))))) .nil))) (.seq (.ifs (.cmp .kNe (.loc rfl) (.callP (gl n rfl rfl rfl) (.cons (.bin .fAdd (.bin .fMul (.int) (.loc rfl)) (.int)) (.cons (.loc rfl) .nil)))) (.seq (.ret (.bool)) .nil) .nil) (.seq (.asg rfl rfl rfl (.callP (gl n rfl rfl rfl) (.cons (.callP (gl n rfl rfl rfl) (.cons (.sub (.loc rfl) (.int)) (.cons (.sub (.loc rfl) (.int)) (.cons (.loc rfl) .nil)))) (.cons (.tup (.cons (.bool) (.cons (.lst (.cons (.int) .nil)) .nil))) (.cons (.loc rfl) .nil))))) (.seq (.asg rfl rfl rfl (.callP (gl n rfl rfl rfl) (.cons (.callP (gl n rfl rfl rfl) (.cons (.tup (.cons (.loc rfl) (.cons (.lst (.cons (.int) .nil)) .nil))) (.cons (.loc rfl) (.cons (.loc rfl) (.cons (gl n rfl rfl rfl) (.cons (gl n rfl rfl rfl) .nil)))))) .nil))) .nil))))))))
theorem s_law5 (n : Gn G) : SndB G (fx 35) [lawS 5] c_law5 := (.seq (.ret (.cmp .kEq (.loc rfl) (.callP (gl n rfl rfl rfl) (.cons (.loc rfl) (.cons (.loc rfl) .nil))))) .nil)
theorem law_for {d : Nat} {ca : Ca} (hc : SndCa G d ca) {st : St} {p q : Nat} {fl : Fl} {st2 : St} (h1 : getL st.lm 3 = some (I p)) (h2 : getL st.lm 5 = some (I q)) (hp : small p = true) (hq : small q = true) (l : LoopR G (fx 35) d 7 lawLoop 1 (q - p) (p : Int) st fl st2) : StepS G (fx 35) d (lawS 4) st fl st2 := by
  have a : SndR G (fx 35) lawArgs [cLoc 3, cLoc 5] := (.cons (.loc rfl) (.cons (.loc rfl) .nil))
  refine StepS.forR rfl rfl rfl a.pl (a.eq hc (vs := [I p, I q]) fun k => ?_) ?_ l
  · show bo (getL st.lm 3) _ = _
    rw [h1]
    show bo (getL st.lm 5) _ = _
    rw [h2]
  · show yn (small q) none (yn (small p) none _) = _
    rw [hp, hq]; rfl
end
end Mine

namespace Mine
open PySem PySem.W PySem.Calls PyProof.Rows

/-- what stands at the head of a turn -/
structure Inv (w p : Nat) (zv : V) (st : St) : Prop where
  nx : st.nx = 1
  l : ∃ l h, setL st.lm 7 (I p) = some l ∧ getL l 2 = some (I w) ∧ getL l 4 = some oneV ∧ getL l 5 = some zv ∧ getL l 6 = some h ∧ ca.pure 33 [I p, I w] = some h ∧ eqO h h = some true
section
variable {G : Pg} {d : Nat}
theorem Turn.here {w p : Nat} (h : Turn w p) : ∃ v, ca.pure 33 [I p, I w] = some v ∧ eqO v v = some true := by
  obtain ⟨v, e1, h1⟩ := bo_some (h (.bool true))
  obtain ⟨b, e2, h2⟩ := bo_some h1
  obtain ⟨rfl, _⟩ := yn_none h2
  exact ⟨v, e1, e2⟩
theorem turn_step (n : Gn G) (hc : SndCa G d ca) {w p : Nat} {zv : V} {st : St} (hT : Turn w p) (i : Inv w p zv st) :
    ∃ l, setL st.lm 7 (I p) = some l ∧ OnOr (StepB G (fx 35) d lawLoop ⟨l, st.hp, st.nx⟩) (Inv w (p + 1) zv) := by
  obtain ⟨l, h, i1, i2, i3, i4, i5, i6, i7⟩ := i.l
  refine ⟨l, i1, ?_⟩
  obtain ⟨h', e1, t1⟩ := bo_some (hT zv)
  cases i6.symm.trans e1
  obtain ⟨_, _, t2⟩ := bo_some t1
  obtain ⟨_, t3⟩ := yn_none t2
  obtain ⟨h2, e2, t4⟩ := bo_some t3
  have wk : ∀ {f : Fl} {st' : St}, StepB G (fx 35) d lawLoop (stT w p zv h) f st' → StepB G (fx 35) d lawLoop ⟨l, st.hp, st.nx⟩ f st' := fun s => s.weaken (fun i v e => by
    match i, e with
    | 2, e => cases e; exact i2
    | 4, e => cases e; exact i3
    | 5, e => cases e; exact i4
    | 6, e => cases e; exact i5
    | 7, e => cases e; exact (getL_setL i1).2
    | 0, e => cases e
    | 1, e => cases e
    | 3, e => cases e
    | 8, e => cases e
    | 9, e => cases e
    | 10, e => cases e
    | i + 11, e => cases e) rfl i.nx.symm
  rcases s_lawBody n d ca hc _ _ _ t4 with ⟨st', s, e⟩ | ⟨v, st', s, e⟩
  · obtain ⟨l', q1, k1⟩ := bo_some e
    obtain ⟨a, q2, k2⟩ := bo_some k1
    obtain ⟨b, q3, k3⟩ := bo_some k2
    obtain ⟨z, q4, k4⟩ := bo_some k3
    obtain ⟨h3, q5, k5⟩ := bo_some k4
    obtain ⟨g1, k6⟩ := yn_none k5
    obtain ⟨g2, k7⟩ := yn_none k6
    obtain ⟨g3, k8⟩ := yn_none k7
    obtain ⟨g4, k9⟩ := yn_none k8
    obtain ⟨b', g5, k10⟩ := bo_some k9
    obtain ⟨rfl, k11⟩ := yn_none k10
    cases eqN_eq _ g1
    cases eqN_eq _ g2
    cases eqN_eq _ g3
    cases k11
    exact .inl ⟨st', wk s, Nat.eq_of_beq_eq_true g4, l', h2, q1, q2, q3, q4, q5, e2, g5⟩
  · injection e with e1 e2; subst e1
    exact .inr ⟨st', wk s⟩
theorem law_loop (n : Gn G) (hc : SndCa G d ca) {w : Nat} {zv : V} : ∀ (k p : Nat) (st : St), (∀ q, p ≤ q → q < p + k → Turn w q) → Inv w p zv st → OnOr (LoopR G (fx 35) d 7 lawLoop 1 k (p : Int) st) (Inv w (p + k) zv)
  | 0, p, st, _, i => .inl ⟨st, .stop, i⟩
  | k + 1, p, st, hT, i => by
    obtain ⟨l, i1, h⟩ := turn_step n hc (hT p (Nat.le_refl _) (by omega)) i
    rcases h with ⟨st1, s1, i'⟩ | ⟨st1, s1⟩
    · rcases law_loop n hc k (p + 1) st1 (fun q a b => hT q (by omega) (by omega)) i' with ⟨st2, s2, i2⟩ | ⟨st2, s2⟩
      · exact .inl ⟨st2, .turn i1 s1 s2, by rw [show p + (k + 1) = p + 1 + k by omega]; exact i2⟩
      · exact .inr ⟨st2, .turn i1 s1 s2⟩
    · exact .inr ⟨st1, .back i1 s1⟩
theorem law2_eq {ca' : Ca} {sv : Option V} {w f c : Nat} {hp hp' : Hp} (hrun : ca'.run 30 [.ref 0, .int 6] hp 1 = some (I c, hp', 1)) (k : St → RR) :
    c_law2 ca' ⟨[sv, some (.ref 0), some (I w), some (I f), some oneV, none, none, none, none, none, none], hp, 1⟩ k = k ⟨[sv, some (.ref 0), some (I w), some (I f), some oneV, some (I (f + 1 + c)), none, none, none, none, none], hp', 1⟩ := by
  show bo (ca'.run 30 [.ref 0, .int 6] hp 1) _ = _
  rw [hrun]; rfl
theorem law3_eq {ca' : Ca} {sv : Option V} {w f q : Nat} {hp : Hp} {h : V} (hth : ca'.pure 33 [I f, I w] = some h) (k : St → RR) :
    c_law3 ca' ⟨[sv, some (.ref 0), some (I w), some (I f), some oneV, some (I q), none, none, none, none, none], hp, 1⟩ k = k ⟨[sv, some (.ref 0), some (I w), some (I f), some oneV, some (I q), some h, none, none, none, none], hp, 1⟩ := by
  show bo (ca'.pure 33 [I f, I w]) _ = _
  rw [hth]; rfl
theorem law5_eq {ca' : Ca} {w q : Nat} {h : V} (hth : ca'.pure 33 [I q, I w] = some h) (he : eqO h h = some true) :
    c_law5 ca' ⟨[none, none, some (I w), none, none, some (I q), some h, none, none, none, none], [], 1⟩ (fun _ => none) = some (.bool true, [], 1) := by
  show bo (ca'.pure 33 [I q, I w]) _ = _
  rw [hth]
  show bo (eqO h h) _ = _
  rw [he]; rfl
theorem law_tail (n : Gn G) (hc : SndCa G d ca) {sv : Option V} {w f c : Nat} {hp hp' : Hp} (hf : f + 1 + c < 100) (hT : ∀ q, f ≤ q → q < f + (c + 1) → Turn w q) (hrun : ca.run 30 [.ref 0, .int 6] hp 1 = some (I c, hp', 1)) :
    ∃ st', StepB G (fx 35) d [lawS 2, lawS 3, lawS 4, lawS 5] ⟨[sv, some (.ref 0), some (I w), some (I f), some oneV, none, none, none, none, none, none], hp, 1⟩ (.ret (.bool true)) st' := by
  rcases (s_law2 n).eq hc (law2_eq hrun) with ⟨st3, s3, rfl⟩ | ⟨st', s3⟩
  · obtain ⟨h, e1, e2⟩ := (hT f (Nat.le_refl _) (by omega)).here
    rcases (s_law3 n).eq hc (law3_eq e1) with ⟨st4, s4, rfl⟩ | ⟨st', s4⟩
    · have sm : ∀ {m : Nat}, m < 100 → small m = true := fun h => Nat.ble_eq_true_of_le (Nat.le_of_lt (Nat.lt_trans h (by decide)))
      rcases law_loop n hc (zv := I (f + 1 + c)) (c + 1) f ⟨[sv, some (.ref 0), some (I w), some (I f), some oneV, some (I (f + 1 + c)), some h, none, none, none, none], hp', 1⟩ hT ⟨rfl, [sv, some (.ref 0), some (I w), some (I f), some oneV, some (I (f + 1 + c)), some h, some (I f), none, none, none], h, rfl, rfl, rfl, rfl, rfl, e1, e2⟩ with ⟨st5, l5, i5⟩ | ⟨st5, l5⟩
      · have s5 := law_for hc (p := f) (q := f + 1 + c) rfl rfl (sm (by omega)) (sm hf) (by rw [show f + 1 + c - f = c + 1 by omega]; exact l5)
        rw [show f + (c + 1) = f + 1 + c by omega] at i5
        obtain ⟨l, h', i1, i2, i3, i4, i5', i6, i7⟩ := i5.l
        have gl : ∀ i, i ≠ 7 → getL st5.lm i = getL l i := fun i hi => ((getL_setL i1).1 i hi).symm
        rcases s_law5 n d ca hc _ _ _ (law5_eq i6 i7) with ⟨st6, s6, e⟩ | ⟨v, st6, s6, e⟩
        · cases e
        · injection e with e1 e2; subst e1
          refine ⟨st6, .cons s3 (.cons s4 (.cons s5 (s6.weaken (fun i v e => ?_) rfl i5.nx.symm)))⟩
          match i, e with
          | 2, e => cases e; exact (gl 2 (by decide)).trans i2
          | 5, e => cases e; exact (gl 5 (by decide)).trans i4
          | 6, e => cases e; exact (gl 6 (by decide)).trans i5'
          | 0, e => cases e
          | 1, e => cases e
          | 3, e => cases e
          | 4, e => cases e
          | 7, e => cases e
          | 8, e => cases e
          | 9, e => cases e
          | 10, e => cases e
          | i + 11, e => cases e
      · exact ⟨st5, .cons s3 (.cons s4 (.stop (law_for hc (p := f) (q := f + 1 + c) rfl rfl (sm (by omega)) (sm hf) (by rw [show f + 1 + c - f = c + 1 by omega]; exact l5))))⟩
    · exact ⟨st', .cons s3 (.stop s4)⟩
  · exact ⟨st', .stop s3⟩
end
end Mine

namespace Mine
open PySem PySem.W PySem.Calls PyProof.Rows

section
variable {G : Pg} {x : Fx} {d : Nat} {c : Cfg} {w : Wd} {st : St} {h : Heap}
theorem OK.bindCell (k : OK G x c w st h) {i : Nat} {y : Str} {v : V} {val : Value} {a : Addr} {o : Obj} {l : List (Option V)} (hi : x.names[i]? = some y) (hk : c.env.kindOf y = some .cell) (hl : c.env.cells.lookup y = some a) (hx : c.X a o) (hd : o.data = .cell (some val)) (hv : VR G w st.nx v val) (hs : setL st.lm i v = some l) :
    OK G x c w ⟨l, st.hp, st.nx⟩ h := { k with
  lm := fun j u e => by
    obtain ⟨h1, h2⟩ := getL_setL hs
    by_cases q : j = i
    · subst q
      cases h2.symm.trans e
      exact ⟨y, val, hi, hv, .inr ⟨hk, a, o, hl, hx, hd⟩⟩
    · exact k.lm j u ((h1 j q).symm.trans e) }
theorem asgC3 {p1 p2 p3 pt pv p : Pos} {es : List PySem.Expr} {y1 y2 y3 : Str} {i1 i2 i3 : Nat} {v1 v2 v3 : V} {st1 : St} {l1 l2 l3 : List (Option V)} (n1 : x.names[i1]? = some y1) (k1 : x.scope.names.lookup y1 = some .cell) (n2 : x.names[i2]? = some y2) (k2 : x.scope.names.lookup y2 = some .local)
    (n3 : x.names[i3]? = some y3) (k3 : x.scope.names.lookup y3 = some .local) (sw : ∀ env : Env, env.scope = x.scope → swappedStores [.Tuple [.Name y1 p1, .Name y2 p2, .Name y3 p3] 0 pt] (.Tuple es 0 pv) env = pure none) (s1 : StepR G x d es st [v1, v2, v3] st1)
    (e1 : setL st1.lm i1 v1 = some l1) (e2 : setL l1 i2 v2 = some l2) (e3 : setL l2 i3 v3 = some l3) (g : Good G x d c) {sh : Shared} {cell : Addr} {o0 : Obj} (ok : OK G x c w st sh.heap) (hcl : c.env.cells.lookup y1 = some cell) (ho : sh.heap.get? cell = some o0) (hd : o0.data = .cell none) (off : Off c w cell)
    {Q : Flow → Shared → Prop} (q : ∀ o' w' h' tk, OK G x (c.plus (one cell o')) w' ⟨l3, st1.hp, st1.nx⟩ h' → Q .next { sh with heap := h', toks := tk }) :
    wpAny (model G.prog G.w) c.A (exec (.Assign [.Tuple [.Name y1 p1, .Name y2 p2, .Name y3 p3] 0 pt] (.Tuple es 0 pv) p) c.env) Q (fun _ _ => False) sh := by
  refine Assign_Tuple (Tuple_ (s1 (c.plus (one cell o0)) (g.plus _) pv w sh _ (ok.plus fun a o e => by obtain ⟨rfl, rfl⟩ := e; exact ⟨ho, off⟩) fun w1 h1 t1 vals ok1 ex1 hv1 => ?_)) ((sole ..).trans (swaps_no rfl ..)) (sw _ g.scope)
  have off1 := ok1.off_back (N := one cell o0) ⟨rfl, rfl⟩ off.1 off.2.2.1
  have ok1 := ok1.back fun a o e v q => by obtain ⟨_, rfl⟩ := e; rw [hd] at q; cases q
  rcases hv1 with _ | ⟨r1, hv1⟩
  rcases hv1 with _ | ⟨r2, hv1⟩
  rcases hv1 with _ | ⟨r3, hv1⟩
  cases hv1
  refine wpAny_newObj_type ?_ (by show (3 : Nat) ≤ sizeLine; decide)
  refine wpAny_assign_Tuple (items := #[_, _, _]) g.hh ⟨_, Heap.get?_push_size _ rfl, rfl, _, rfl⟩ rfl rfl fun h2 he => ?_
  have hk2 : Keep h1 h2 := fun b o e => ExtBut.keep he b o (push_keep h1 _ b o e)
  have ok2 := ok1.keep hk2
  have hkd : c.env.kindOf y1 = some .cell := by show c.env.scope.names.lookup y1 = _; rw [g.scope]; exact k1
  refine ord3 (assign_Name (wpAny_storeName_cell (by rw [g.scope]; exact g.kind) hkd hcl ⟨o0, hk2 _ _ off1.1, hd⟩ fun h3 hv hs => ?_))
  obtain ⟨o', ho', hd'⟩ := hv
  replace hs : Heap.SameBut cell h2 h3 := hs
  have ok3 : OK G x (c.plus (one cell o')) w1 ⟨l1, st1.hp, st1.nx⟩ h3 := ((ok2.off_ext off1.2 hs.extBut).plus (N := one cell o') fun a o e => by obtain ⟨rfl, rfl⟩ := e; exact ⟨ho', off1.2⟩).bindCell n1 hkd hcl (.inr ⟨rfl, rfl⟩) hd' r1 e1
  exact assign_Name (store_loc (c := c.plus (one cell o')) (g.plus _) n2 k2 ok3 r2 e2 fun h4 t4 ok4 => assign_Name (store_loc (c := c.plus (one cell o')) (g.plus _) n3 k3 ok4 (r3.ext (Ext.store ..)) e3 fun h5 t5 ok5 => q o' _ h5 t5 ok5))
end

/- the draws -/
theorem stroll0 : ∃ a b c, a < 6 ∧ b < 60 ∧ c < 6 ∧ ca.run 30 [.ref 0, .int 6] [(0, [.int 0, .lst []])] 1 = some (I a, [(0, [.int 1, .lst []])], 1) ∧ ca.run 30 [.ref 0, .int 60] [(0, [.int 1, .lst []])] 1 = some (I b, [(0, [.int 2, .lst []])], 1) ∧ ca.run 30 [.ref 0, .int 6] [(0, [.int 2, .lst []])] 1 = some (I c, [(0, [.int 3, .lst []])], 1) :=
  ⟨2, 14, 1, by decide, by decide, by decide, by kernel_rfl, by kernel_rfl, by kernel_rfl⟩
theorem stroll1 (x : Nat) : ∃ a b c, a < 6 ∧ b < 60 ∧ c < 6 ∧ ca.run 30 [.ref 0, .int 6] [(0, [.int 0, .lst [I x]])] 1 = some (I a, [(0, [.int 1, .lst [I x]])], 1) ∧ ca.run 30 [.ref 0, .int 60] [(0, [.int 1, .lst [I x]])] 1 = some (I b, [(0, [.int 2, .lst [I x]])], 1) ∧ ca.run 30 [.ref 0, .int 6] [(0, [.int 2, .lst [I x]])] 1 = some (I c, [(0, [.int 3, .lst [I x]])], 1) :=
  ⟨x % 6, 14, 1, Nat.mod_lt _ (by decide), by decide, by decide, by kernel_rfl, by kernel_rfl, by kernel_rfl⟩
theorem stroll2 (x y : Nat) : ∃ a b c, a < 6 ∧ b < 60 ∧ c < 6 ∧ ca.run 30 [.ref 0, .int 6] [(0, [.int 0, .lst [I x, I y]])] 1 = some (I a, [(0, [.int 1, .lst [I x, I y]])], 1) ∧ ca.run 30 [.ref 0, .int 60] [(0, [.int 1, .lst [I x, I y]])] 1 = some (I b, [(0, [.int 2, .lst [I x, I y]])], 1) ∧ ca.run 30 [.ref 0, .int 6] [(0, [.int 2, .lst [I x, I y]])] 1 = some (I c, [(0, [.int 3, .lst [I x, I y]])], 1) :=
  ⟨x % 6, y % 60, 1, Nat.mod_lt _ (by decide), Nat.mod_lt _ (by decide), by decide, by kernel_rfl, by kernel_rfl, by kernel_rfl⟩
theorem stroll3 (x y z : Nat) : ∃ a b c, a < 6 ∧ b < 60 ∧ c < 6 ∧ ca.run 30 [.ref 0, .int 6] [(0, [.int 0, .lst [I x, I y, I z]])] 1 = some (I a, [(0, [.int 1, .lst [I x, I y, I z]])], 1) ∧ ca.run 30 [.ref 0, .int 60] [(0, [.int 1, .lst [I x, I y, I z]])] 1 = some (I b, [(0, [.int 2, .lst [I x, I y, I z]])], 1) ∧ ca.run 30 [.ref 0, .int 6] [(0, [.int 2, .lst [I x, I y, I z]])] 1 = some (I c, [(0, [.int 3, .lst [I x, I y, I z]])], 1) :=
  ⟨x % 6, y % 60, z % 6, Nat.mod_lt _ (by decide), Nat.mod_lt _ (by decide), Nat.mod_lt _ (by decide), by kernel_rfl, by kernel_rfl, by kernel_rfl⟩

/- the first two statements -/
noncomputable abbrev c_law0 : CS := sAsg 1 (cLst true [cVal (.int 0), cBlk elA (cSlice false (cLoc 0) none (some (cVal (.int 3))))])
noncomputable abbrev fs1 : List CE := [cBin fAdd (cVal (.int 3)) (cCallI (cVal (.fn 30)) [cLoc 1, cVal (.int 6)]), cCallI (cVal (.fn 30)) [cLoc 1, cVal (.int 60)], cTup [cTup [cVal (.bool false), cLst false [cVal (.int 1)]], cLst false [cVal (.int 1)]]]
def es1 : List PySem.Expr := match lawS 1 with
  | .Assign _ (.Tuple es _ _) _ => es
  | _ => []
section
variable {G : Pg}
theorem s_law0 (n : Gn G) : SndS G (fx 35) (lawS 0) c_law0 :=
  .asg rfl rfl rfl (.lst (.cons .int (.cons (.blk (fun _ _ => rfl) (.slice (.loc rfl) .none (.some .int)) (fun _ h => ⟨rfl, by decide, by decide, rfl, relOf h rfl⟩) (elt_abs rfl rfl n.abs n.int fun _ h => ⟨relOf h rfl, relOf h rfl, relOf h rfl⟩)) .nil)))
theorem s_law1 (n : Gn G) : SndR G (fx 35) es1 fs1 :=
  .cons (.bin .fAdd .int (.callI (gl n rfl rfl rfl) (.cons (.loc rfl) (.cons .int .nil)))) (.cons (.callI (gl n rfl rfl rfl) (.cons (.loc rfl) (.cons .int .nil))) (.cons (.tup (.cons (.tup (.cons .bool (.cons (.lst (.cons .int .nil)) .nil))) (.cons (.lst (.cons .int .nil)) .nil))) .nil))
theorem law1_eq {ca' : Ca} {sv : Option V} {a b : Nat} {hp hp1 hp2 : Hp} (h1 : ca'.run 30 [.ref 0, .int 6] hp 1 = some (I a, hp1, 1)) (h2 : ca'.run 30 [.ref 0, .int 60] hp1 1 = some (I b, hp2, 1)) (k : List V → St → RR) :
    evR ca' fs1 ⟨[sv, some (.ref 0), none, none, none, none, none, none, none, none, none], hp, 1⟩ k = k [I (3 + a), I b, oneV] ⟨[sv, some (.ref 0), none, none, none, none, none, none, none, none, none], hp2, 1⟩ := by
  show bo (ca'.run 30 [.ref 0, .int 6] hp 1) _ = _
  rw [h1]
  show bo (ca'.run 30 [.ref 0, .int 60] hp1 1) _ = _
  rw [h2]; rfl
theorem elA_int (i : Int) : elA (.int i) = some (I i.natAbs) := by cases i <;> rfl
end
end Mine

namespace Mine
open PySem PySem.W PySem.Calls PyProof.Rows

def Draws (xs : List V) : Prop := ∃ a b c, a < 6 ∧ b < 60 ∧ c < 6 ∧ ca.run 30 [.ref 0, .int 6] [(0, [.int 0, .lst xs])] 1 = some (I a, [(0, [.int 1, .lst xs])], 1) ∧ ca.run 30 [.ref 0, .int 60] [(0, [.int 1, .lst xs])] 1 = some (I b, [(0, [.int 2, .lst xs])], 1) ∧ ca.run 30 [.ref 0, .int 6] [(0, [.int 2, .lst xs])] 1 = some (I c, [(0, [.int 3, .lst xs])], 1)
abbrev st0 (vs : List V) : St := ⟨[some (.lst vs), none, none, none, none, none, none, none, none, none, none], [], 0⟩
abbrev st1 (vs xs : List V) : St := ⟨[some (.lst vs), some (.ref 0), none, none, none, none, none, none, none, none, none], [(0, [.int 0, .lst xs])], 1⟩
noncomputable abbrev ab (i : Int) : V := .int (onI i (fun k => .ofNat k) fun k => .ofNat (Nat.succ k))
theorem ab_eq (i : Int) : ab i = I i.natAbs := by cases i <;> rfl
theorem law0_eq (l : List Int) (hs : shortL (l.map .int) = true) : ∃ xs, Draws xs ∧ ∀ (ca' : Ca) (k : St → RR), c_law0 ca' (st0 (l.map .int)) k = k (st1 (l.map .int) xs) := by
  match l, hs with
  | [], _ => exact ⟨[], stroll0, fun ca' k => rfl⟩
  | [x], _ => exact ⟨[ab x], by rw [ab_eq]; exact stroll1 _, fun ca' k => rfl⟩
  | [x, y], _ => exact ⟨[ab x, ab y], by rw [ab_eq, ab_eq]; exact stroll2 _ _, fun ca' k => rfl⟩
  | x :: y :: z :: r, hs => exact ⟨[ab x, ab y, ab z], by rw [ab_eq, ab_eq, ab_eq]; exact stroll3 _ _ _, fun ca' k => by
      show yn (shortL ((x :: y :: z :: r).map .int)) none _ = _
      rw [hs]; rfl⟩
section
variable {G : Pg} {d : Nat} {c : Cfg} {w : Wd}
theorem law_run (n : Gn G) (hc : SndCa G d ca) (g : Good G (fx 35) d c) {sh : Shared} {l : List Int} {cell : Addr} {o0 : Obj} (hs : shortL (l.map .int) = true) (ok : OK G (fx 35) c w (st0 (l.map .int)) sh.heap) (hcl : c.env.cells.lookup (Str.ofString "w") = some cell)
    (ho : sh.heap.get? cell = some o0) (hd : o0.data = .cell none) (off : Off c w cell) (hT : ∀ w p, w < 6 → p < 65 → Turn (3 + w) p) {Q : Flow → Shared → Prop} (q : ∀ m h' tk, Fr c.h₀ c.L h' m → Q (.ret (.bool true)) { sh with heap := h', toks := tk }) :
    wpAny (model G.prog G.w) c.A (execs (bodyOf (defK 35)) c.env) Q (fun _ _ => False) sh := by
  show wpAny _ _ (execs (lawS 0 :: lawS 1 :: [lawS 2, lawS 3, lawS 4, lawS 5]) c.env) _ _ _
  obtain ⟨xs, ⟨a, b, cc, ha, hb, hcc, r1, r2, r3⟩, he⟩ := law0_eq l hs
  have okp : OK G (fx 35) (c.plus (one cell o0)) w (st0 (l.map .int)) sh.heap := ok.plus fun a o e => by obtain ⟨rfl, rfl⟩ := e; exact ⟨ho, off⟩
  rcases (s_law0 n).eq hc (he ca) with ⟨_, s1, rfl⟩ | ⟨st', s1⟩
  · refine wpAny_execs_cons (s1 (c.plus (one cell o0)) (g.plus _) w sh _ okp fun w1 h1 t1 fl ok1 ex1 hf => ?_)
    cases hf
    have off1 := ok1.off_back (N := one cell o0) ⟨rfl, rfl⟩ off.1 off.2.2.1
    have ok1 := ok1.back fun a o e v q => by obtain ⟨_, rfl⟩ := e; rw [hd] at q; cases q
    obtain ⟨st', tail⟩ := law_tail n hc (sv := some (.lst (l.map .int))) (w := 3 + a) (f := b) (c := cc) (by omega) (fun q h1 h2 => hT a q ha (by omega)) r3
    refine wpAny_execs_cons (asgC3 (x := fx 35) (i1 := 2) (i2 := 3) (i3 := 4) (y1 := Str.ofString "w") rfl rfl rfl rfl rfl rfl (swNo rfl) ((s_law1 n).eq hc (law1_eq r1 r2)) (l1 := [some (.lst (l.map .int)), some (.ref 0), some (I (3 + a)), none, none, none, none, none, none, none, none])
      (l2 := [some (.lst (l.map .int)), some (.ref 0), some (I (3 + a)), some (I b), none, none, none, none, none, none, none]) (l3 := [some (.lst (l.map .int)), some (.ref 0), some (I (3 + a)), some (I b), some oneV, none, none, none, none, none, none]) rfl rfl rfl g ok1 hcl off1.1 hd off1.2 fun o' w2 h2 t2 ok2 => ?_)
    exact tail (c.plus (one cell o')) (g.plus _) w2 _ _ ok2 fun w3 h3 t3 fl ok3 ex3 hf => by
      cases hf with
      | ret hv =>
        cases hv
        exact q _ h3 t3 ok3.F
  · exact wpAny_execs_cons (s1 (c.plus (one cell o0)) (g.plus _) w sh _ okp fun w1 h1 t1 fl ok1 ex1 hf => by
      cases hf with
      | ret hv =>
        cases hv
        exact q _ h1 t1 ok1.F)
end
end Mine

namespace Mine
open PySem PySem.W PySem.Calls PyProof.Rows

def fa0 (k : Nat) : Addr := 58 + 7 * k
def prm (k : Nat) : Arguments := (argsOf (defK k)).getD default
def psOf (k : Nat) : Nat := (prm k).args.length
def obsK (K : Frag) (k : Nat) : Option (FuncBody × Scope × Addr × Addr × Arguments × Value × Bool) := match K.lookup (fa0 k) with
  | some ⟨_, _, .func fd, _⟩ => some (fd.body, fd.scope, fd.globals, fd.builtins, fd.params, fd.defaults, codeIn K fd.code fd.qualname)
  | _ => none
def expK (k : Nat) : Option (FuncBody × Scope × Addr × Addr × Arguments × Value × Bool) := some (.stmts (bodyOf (defK k)), scopeOf (defK k), mainGlobals, builtinsNs, prm k, .none, true)
structure KOK (K : Frag) : Prop where
  f : (List.range 35).map (obsK K) = (List.range 35).map expK
  ns : (List.range 35).map (fun k => nsIn K mainGlobals (gn0 k)) = (List.range 35).map (fun k => some (some (.ref (fa0 k))))
  keep : (List.range 35).map (fun k => keepIn K (.ref (fa0 k))) = (List.range 35).map (fun _ => true)
  blt : [("len" : Str), "range", "min", "enumerate", "abs", "int"].map (nsIn K mainGlobals) = [some none, some none, some none, some none, some none, some none]
theorem at_k {α : Type} {f g : Nat → α} {n k : Nat} (h : (List.range n).map f = (List.range n).map g) (hk : k < n) : f k = g k := List.map_inj_left.mp h k (List.mem_range.mpr hk)
def Stat (k : Nat) : Prop := (fx k).scope.kind = .function ∧ (fx k).scope.isCoroutine = false ∧ (fx k).scope.isGenerator = false ∧ (∀ y ∈ (fx k).scope.names, y.2 ≠ .cell) ∧ (∀ y ∈ (fx k).names.take (psOf k), (fx k).scope.names.lookup y = some .local) ∧
  psOf k ≤ (fx k).names.length ∧ (fx k).names.Nodup ∧ ∀ y ∈ (fx k).names, (y == ("__debug__" : Str)) = false
theorem obs_some {K : Frag} {k : Nat} {r : FuncBody × Scope × Addr × Addr × Arguments × Value × Bool} (h : obsK K k = some r) : ∃ o fd, K.lookup (fa0 k) = some o ∧ o.data = .func fd ∧ r = (fd.body, fd.scope, fd.globals, fd.builtins, fd.params, fd.defaults, codeIn K fd.code fd.qualname) := by
  unfold obsK at h
  split at h
  · rename_i fd _ e
    exact ⟨_, fd, e, rfl, (Option.some.inj h).symm⟩
  · cases h
/-- positional arguments alone -/
def Bd (k : Nat) : Prop := ∀ (fd : FuncData), fd.params = prm k → fd.defaults = .none → ∀ vals : List Value, vals.length = psOf k → bindArgs fd ⟨vals, []⟩ = pure (((fx k).names.take (psOf k)).zip vals)
abbrev bg (fd : FuncData) (k : Nat) (vals : List Value) : Prop := bindArgs { fd with params := prm k, defaults := .none } ⟨vals, []⟩ = pure (((fx k).names.take (psOf k)).zip vals)
def BdN (k : Nat) (fd : FuncData) : Nat → List Value → Prop
  | 0, vs => bg fd k vs
  | n + 1, vs => ∀ v, BdN k fd n (vs ++ [v])
theorem bdn {k : Nat} {fd : FuncData} : ∀ {n : Nat} {vs us : List Value}, BdN k fd n vs → us.length = n → bg fd k (vs ++ us)
  | 0, vs, us, h, e => by rw [List.length_eq_zero_iff.mp e, List.append_nil]; exact h
  | n + 1, vs, us, h, e => by
    cases us with
    | nil => cases e
    | cons v us =>
      have := bdn (h v) (Nat.succ.inj e)
      rwa [List.append_assoc] at this
theorem bd_of {k : Nat} (h : ∀ fd, BdN k fd (psOf k) []) : Bd k := fun fd h1 h2 vals h3 => by
  have e : fd = { fd with params := prm k, defaults := .none } := by cases fd; cases h1; cases h2; rfl
  rw [e]
  exact bdn (h fd) h3
section
variable {G : Pg}
theorem df_of (KO : KOK G.K) (hfa : G.fa = fa0) {k : Nat} (hk : k < 35) {f : Fc} (hp : f.ps = psOf k) (st : Stat k) (bd : Bd k) (hs : SndB G (fx k) (bodyOf (defK k)) f.body) : ∃ x o fd body, DfOK G k f x o fd body := by
  obtain ⟨o, fd, e1, e2, e3⟩ := obs_some (at_k KO.f hk)
  injection e3 with a1 e3
  injection e3 with a2 e3
  injection e3 with a3 e3
  injection e3 with a4 e3
  injection e3 with a5 e3
  injection e3 with a6 a7
  obtain ⟨s1, s2, s3, s4, s5, s6, s7, s8⟩ := st
  refine ⟨fx k, o, fd, bodyOf (defK k), ?_, e2, a1.symm, a7.symm, a2.symm, a3.symm, a4.symm, s1, s2, s3, s4, ?_, ?_, s7, s8, ?_, hs⟩
  · rw [hfa]; exact e1
  · rw [hp]; exact s5
  · rw [hp]; exact s6
  · rw [hp]; exact bd fd a5.symm a6.symm
theorem bd_0 : Bd 0 := bd_of fun _ _ => by show bindArgs _ _ = _; kernel_rfl
theorem bd_1 : Bd 1 := bd_of fun _ _ _ => by show bindArgs _ _ = _; kernel_rfl
theorem bd_2 : Bd 2 := bd_of fun _ _ _ _ => by show bindArgs _ _ = _; kernel_rfl
theorem bd_3 : Bd 3 := bd_of fun _ _ _ _ => by show bindArgs _ _ = _; kernel_rfl
theorem bd_4 : Bd 4 := bd_of fun _ _ _ _ => by show bindArgs _ _ = _; kernel_rfl
theorem bd_5 : Bd 5 := bd_of fun _ _ _ _ => by show bindArgs _ _ = _; kernel_rfl
theorem bd_6 : Bd 6 := bd_of fun _ _ _ _ => by show bindArgs _ _ = _; kernel_rfl
theorem bd_7 : Bd 7 := bd_of fun _ _ _ _ => by show bindArgs _ _ = _; kernel_rfl
theorem bd_8 : Bd 8 := bd_of fun _ _ _ => by show bindArgs _ _ = _; kernel_rfl
theorem bd_9 : Bd 9 := bd_of fun _ _ _ => by show bindArgs _ _ = _; kernel_rfl
theorem bd_10 : Bd 10 := bd_of fun _ _ => by show bindArgs _ _ = _; kernel_rfl
theorem bd_11 : Bd 11 := bd_of fun _ _ _ _ => by show bindArgs _ _ = _; kernel_rfl
theorem bd_12 : Bd 12 := bd_of fun _ _ _ _ _ => by show bindArgs _ _ = _; kernel_rfl
theorem bd_13 : Bd 13 := bd_of fun _ _ _ _ _ => by show bindArgs _ _ = _; kernel_rfl
theorem bd_14 : Bd 14 := bd_of fun _ _ _ _ _ => by show bindArgs _ _ = _; kernel_rfl
theorem bd_15 : Bd 15 := bd_of fun _ _ _ _ _ => by show bindArgs _ _ = _; kernel_rfl
theorem bd_16 : Bd 16 := bd_of fun _ _ _ _ _ => by show bindArgs _ _ = _; kernel_rfl
theorem bd_17 : Bd 17 := bd_of fun _ _ => by show bindArgs _ _ = _; kernel_rfl
theorem bd_18 : Bd 18 := bd_of fun _ _ => by show bindArgs _ _ = _; kernel_rfl
theorem bd_19 : Bd 19 := bd_of fun _ _ _ _ _ _ => by show bindArgs _ _ = _; kernel_rfl
theorem bd_20 : Bd 20 := bd_of fun _ _ _ _ _ _ => by show bindArgs _ _ = _; kernel_rfl
theorem bd_21 : Bd 21 := bd_of fun _ _ => by show bindArgs _ _ = _; kernel_rfl
theorem bd_22 : Bd 22 := bd_of fun _ _ _ _ => by show bindArgs _ _ = _; kernel_rfl
theorem bd_23 : Bd 23 := bd_of fun _ _ _ _ => by show bindArgs _ _ = _; kernel_rfl
theorem bd_24 : Bd 24 := bd_of fun _ _ _ _ => by show bindArgs _ _ = _; kernel_rfl
theorem bd_25 : Bd 25 := bd_of fun _ _ _ _ _ => by show bindArgs _ _ = _; kernel_rfl
theorem bd_26 : Bd 26 := bd_of fun _ _ _ _ _ _ => by show bindArgs _ _ = _; kernel_rfl
theorem bd_27 : Bd 27 := bd_of fun _ _ _ _ _ => by show bindArgs _ _ = _; kernel_rfl
theorem bd_28 : Bd 28 := bd_of fun _ _ _ _ => by show bindArgs _ _ = _; kernel_rfl
theorem bd_29 : Bd 29 := bd_of fun _ _ _ _ => by show bindArgs _ _ = _; kernel_rfl
theorem bd_30 : Bd 30 := bd_of fun _ _ _ => by show bindArgs _ _ = _; kernel_rfl
theorem bd_31 : Bd 31 := bd_of fun _ _ _ => by show bindArgs _ _ = _; kernel_rfl
theorem bd_32 : Bd 32 := bd_of fun _ _ => by show bindArgs _ _ = _; kernel_rfl
theorem bd_33 : Bd 33 := bd_of fun _ _ _ => by show bindArgs _ _ = _; kernel_rfl
theorem bd_34 : Bd 34 := bd_of fun _ _ => by show bindArgs _ _ = _; kernel_rfl
theorem stats : ∀ k ∈ List.range 35, Stat k := by unfold Stat; decide +kernel
theorem stat {k : Nat} (h : k < 35) : Stat k := stats k (List.mem_range.mpr h)
def Fts (G : Pg) : List Fc → Nat → Prop
  | [], _ => True
  | f :: l, k => (f.ps = psOf k ∧ Bd k ∧ SndB G (fx k) (bodyOf (defK k)) f.body) ∧ Fts G l (k + 1)
theorem fts_get : ∀ {l : List Fc} {i k : Nat} {f : Fc}, Fts G l k → nthF l i = some f → i < l.length ∧ f.ps = psOf (k + i) ∧ Bd (k + i) ∧ SndB G (fx (k + i)) (bodyOf (defK (k + i))) f.body
  | [], _, _, _, _, e => by cases e
  | _ :: _, 0, _, _, h, e => by cases e; exact ⟨Nat.succ_pos _, h.1⟩
  | _ :: l, i + 1, k, f, h, e => by
    obtain ⟨h1, h2⟩ := fts_get (l := l) (i := i) h.2 e
    rw [show k + (i + 1) = k + 1 + i by omega]
    exact ⟨Nat.succ_lt_succ h1, h2⟩
theorem fts (n : Gn G) : Fts G fcs 0 :=
  ⟨⟨rfl, bd_0, s_normal n⟩,
   ⟨rfl, bd_1, s_compare n⟩,
   ⟨rfl, bd_2, s_add n⟩,
   ⟨rfl, bd_3, s_sub n⟩,
   ⟨rfl, bd_4, s_add_limb n⟩,
   ⟨rfl, bd_5, s_divrem_limb n⟩,
   ⟨rfl, bd_6, s_shift_left n⟩,
   ⟨rfl, bd_7, s_shift_right n⟩,
   ⟨rfl, bd_8, s_bits n⟩,
   ⟨rfl, bd_9, s_signed n⟩,
   ⟨rfl, bd_10, s_s_neg n⟩,
   ⟨rfl, bd_11, s_s_add n⟩,
   ⟨rfl, bd_12, s_s_mul n⟩,
   ⟨rfl, bd_13, s_tdiv n⟩,
   ⟨rfl, bd_14, s_fdiv n⟩,
   ⟨rfl, bd_15, s_common n⟩,
   ⟨rfl, bd_16, s_cut_signed n⟩,
   ⟨rfl, bd_17, s_signed_of n⟩,
   ⟨rfl, bd_18, s_r_neg n⟩,
   ⟨rfl, bd_19, s_r_add n⟩,
   ⟨rfl, bd_20, s_r_sub n⟩,
   ⟨rfl, bd_21, s_r_inverse n⟩,
   ⟨rfl, bd_22, s_continued n⟩,
   ⟨rfl, bd_23, s_mul_school n⟩,
   ⟨rfl, bd_24, s_divrem_small n⟩,
   ⟨rfl, bd_25, s_guessed_limb n⟩,
   ⟨rfl, bd_26, s_take_away n⟩,
   ⟨rfl, bd_27, s_put_back n⟩,
   ⟨rfl, bd_28, s_divide_rows n⟩,
   ⟨rfl, bd_29, s_divrem_school n⟩,
   ⟨rfl, bd_30, s_law_strolled n⟩,
   ⟨rfl, bd_31, s_law_limbs n⟩,
   ⟨rfl, bd_32, s_law_ways n⟩,
   ⟨rfl, bd_33, s_law_there n⟩,
   ⟨rfl, bd_34, s_law_runs n⟩, trivial⟩
theorem hft (n : Gn G) (KO : KOK G.K) (hfa : G.fa = fa0) (k : Nat) (f : Fc) (h : ft k = some f) : k < G.nf ∧ ∃ x o fd body, DfOK G k f x o fd body := by
  obtain ⟨h1, h2⟩ := fts_get (fts n) h
  rw [Nat.zero_add] at h2
  have h1 : k < 35 := h1
  exact ⟨by rw [n.nf]; exact h1, df_of KO hfa h1 h2.1 (stat h1) h2.2.1 h2.2.2⟩
end
end Mine

namespace Mine
open PySem PySem.W PySem.Calls PyProof.Rows

theorem dbg0 : ∀ k ∈ List.range 35, (gn0 k == ("__debug__" : Str)) = false := by decide +kernel
theorem pg_ok {G : Pg} (KO : KOK G.K) (hfa : G.fa = fa0) (hgn : G.gn = gn0) (hnf : G.nf = 35) : PgOK G := by
  have hb := KO.blt
  injection hb with b1 hb
  injection hb with b2 hb
  injection hb with b3 hb
  injection hb with b4 hb
  exact ⟨fun k h => by rw [hgn]; exact dbg0 k (List.mem_range.mpr (hnf ▸ h)), fun k h => by rw [hgn, hfa]; exact at_k KO.ns (hnf ▸ h), fun k h => by rw [hfa]; exact at_k KO.keep (hnf ▸ h), b1, b2, b3, b4⟩
theorem gn_ok {G : Pg} (KO : KOK G.K) (hgn : G.gn = gn0) (hnf : G.nf = 35) : Gn G := by
  have hb := KO.blt
  injection hb with b1 hb
  injection hb with b2 hb
  injection hb with b3 hb
  injection hb with b4 hb
  injection hb with b5 hb
  injection hb with b6 hb
  exact ⟨hgn, hnf, b5, b6⟩
theorem ints_vf {fa : Nat → Addr} {D : Fact} {vs : List Value} {ns : List Int} (h : IntsAre vs ns) : VFs fa D (ns.map .int) vs := by
  induction h with
  | nil => exact .nil
  | cons n t _ r => exact .cons (.int n t) r
theorem lenL_map (l : List Int) : lenL (l.map .int) = l.length := by
  induction l with
  | nil => rfl
  | cons a l ih => exact congrArg Nat.succ ih
theorem law_core {prog : Program} {w : World} {K : Frag} {p : Program} {loose : List Str} {mean : ExcName → Option Value} {mg mb : Str → Option Value} {s₁ : Shared} {h₁ : Heap} {tk : Nat} {env : Env} {L al : Addr} {o : Obj} {m : Str → Option Value} {vals : List Value} {ns : List Int} {nn : Nat}
    (KO : KOK K) (X : K.In s₁.heap) (T : Top p loose mean mg mb s₁.heap) (sc : env.scope = scopeOf (defK 35)) (lo : env.locals = L) (fr : env.frame = some L) (gb : env.globals = mainGlobals) (bn : env.builtins = builtinsNs) (cl : env.cells.lookup (Str.ofString "w") = some (L + 1))
    (F : Fr s₁.heap L h₁ m) (hm : m (Str.ofString "script") = some (.ref al)) (N : News s₁.heap L h₁ [(L + 1, o)]) (hd : o.data = .cell none) (hl : s₁.heap.get? al = some (LO vals nn)) (hI : IntsAre vals ns) (hlen : ¬ 63 < ns.length) (hT : ∀ w p, w < 6 → p < 65 → Turn (3 + w) p)
    {Q : Flow → Shared → Prop} {E : Value → Shared → Prop} (q : ∀ m h' tk, Fr s₁.heap L h' m → Q (.ret (.bool true)) { s₁ with heap := h', toks := tk }) :
    wpAny (model prog w) (callerA.deeper env) (execs (bodyOf (defK 35)) env) Q E { s₁ with heap := h₁, toks := tk } := by
  let G : Pg := { prog := prog, w := w, K := K, p := p, loose := loose, mean := mean, mg := mg, mb := mb, fa := fa0, gn := gn0, nf := 35 }
  have n : Gn G := gn_ok KO rfl rfl
  have hc : SndCa G 40 ca := SndCa.cas (hft n KO rfl) 40
  have Ld : al ≠ L := fun e => by
    have := F.above
    rw [← e] at this
    exact absurd (Heap.lt_size hl) (Nat.not_lt.mpr this)
  let c : Cfg := { A := callerA.deeper env, env := env, h₀ := s₁.heap, L := L, X := fun _ _ => False, D₀ := one al (LO vals nn) }
  have st35 : (fx 35).scope.kind = .function ∧ (fx 35).names.Nodup ∧ ∀ y ∈ (fx 35).names, (y == ("__debug__" : Str)) = false := by decide +kernel
  have g : Good G (fx 35) 40 c := ⟨⟨callerA, s₁.heap, [], below_caller _, Around.frames_deeper (below_caller s₁.heap).stack⟩, X, T, rfl, by show callerA.depth + 1 + 40 < recursionLimit; decide +kernel, by show callerA.units + 3 + 16 * 40 + 100 < cLine; decide +kernel, sc, st35.1, lo, fr, gb, bn, st35.2.1, st35.2.2, pg_ok KO rfl rfl rfl⟩
  have e0 := N (L + 1, o) (.head _)
  have ok : OK G (fx 35) c ⟨one al (LO vals nn), [], m⟩ (st0 (ns.map .int)) h₁ := {
    F := F
    xs := fun _ _ e => e.elim
    ds := fun a o e => by obtain ⟨rfl, rfl⟩ := e; exact ⟨F.keep _ _ hl, Ld⟩
    xd := fun _ _ _ e => e.elim
    d0 := fun _ _ e => .inl e
    ls := fun _ h => nomatch h
    an := .nil
    kn := .nil
    kl := fun _ h => nomatch h
    lr := .nil
    lm := fun i v e => by
      match i, e with
      | 0, e => cases e; exact ⟨Str.ofString "script", .ref al, rfl, .lst ⟨rfl, rfl⟩ (ints_vf hI), .inl ⟨by show env.scope.names.lookup _ = _; rw [sc]; rfl, hm⟩⟩
      | 1, e => cases e
      | 2, e => cases e
      | 3, e => cases e
      | 4, e => cases e
      | 5, e => cases e
      | 6, e => cases e
      | 7, e => cases e
      | 8, e => cases e
      | 9, e => cases e
      | 10, e => cases e
      | i + 11, e => cases e }
  have off : Off c ⟨one al (LO vals nn), [], m⟩ (L + 1) := ⟨e0.2.2, e0.2.1, fun _ e => e, fun o' e => (by
    have := e0.2.2
    rw [e.1, hl] at this
    cases this), fun _ h => (nomatch h)⟩
  exact wpF (law_run n hc g (sh := { s₁ with heap := h₁, toks := tk }) (by show Nat.ble (lenL _) 4096 = true; rw [lenL_map]; exact Nat.ble_eq_true_of_le (by omega)) ok cl e0.1 hd off hT fun m h' tk F' => q m h' tk F')
end Mine

namespace Mine
open PySem PySem.W PySem.Calls PyProof.Rows

/-- what the head reads off its last heap: the 35 defs, their code records, the main namespace -/
def codeAd (h : Heap) (k : Nat) : Addr := match h.get? (fa0 k) with
  | some ⟨_, _, .func fd, _⟩ => (match fd.code with | .ref c => c | _ => 0)
  | _ => 0
def pick (h : Heap) : List Addr → Frag
  | [] => []
  | a :: l => match h.get? a with
    | some o => (a, o) :: pick h l
    | none => pick h l
theorem pick_in {h : Heap} : ∀ (l : List Addr), (pick h l).In h
  | [] => fun _ _ e => nomatch e
  | a :: l => fun b o e => by
    unfold pick at e
    cases q : h.get? a with
    | none => rw [q] at e; exact pick_in l b o e
    | some o' =>
      rw [q] at e
      by_cases c : b = a
      · subst c
        rw [List.lookup_cons_self] at e
        exact q.trans e
      · have : (b == a) = false := beq_eq_false_iff_ne.mpr c
        have e' : List.lookup b ((a, o') :: pick h l) = some o := e
        rw [List.lookup_cons, this] at e'
        exact pick_in l b o e'
def fragAt (h : Heap) : Frag := pick h (mainGlobals :: ((List.range 35).map fa0 ++ (List.range 35).map (codeAd h)))
def mp {α : Type} (f : Nat → α) : List Nat → List α
  | [] => []
  | k :: l => f k :: mp f l
theorem mp_eq {α : Type} (f : Nat → α) : ∀ l, mp f l = l.map f
  | [] => rfl
  | _ :: l => congrArg _ (mp_eq f l)
abbrev Ob := List (Option (FuncBody × Scope × Addr × Addr × Arguments × Value × Bool)) × List (Option (Option Value)) × List Bool × List (Option (Option Value))
def obs (s : Shared) : Ob := ((List.range 35).map (obsK (fragAt s.heap)), (List.range 35).map (fun k => nsIn (fragAt s.heap) mainGlobals (gn0 k)), (List.range 35).map (fun k => keepIn (fragAt s.heap) (.ref (fa0 k))), [("len" : Str), "range", "min", "enumerate", "abs", "int"].map (nsIn (fragAt s.heap) mainGlobals))
def want : Ob := (mp expK (List.range 35), mp (fun k => some (some (.ref (fa0 k)))) (List.range 35), mp (fun _ => true) (List.range 35), [some none, some none, some none, some none, some none, some none])
theorem kok_at {s : Shared} (e : obs s = want) : KOK (fragAt s.heap) := by
  injection e with e1 e
  injection e with e2 e
  injection e with e3 e4
  exact ⟨e1.trans (mp_eq _ _), e2.trans (mp_eq _ _), e3.trans (mp_eq _ _), e4⟩
abbrev prg : Program := PySem.Challenge.rw_xm0389_01.row.prog
/-- the top without its five assignments of `__name__` -/
def isDef : Stmt → Bool
  | .Assign .. => false
  | _ => true
def view : Program := { prg with main := { prg.main with body := prg.main.body.filter isDef } }
/- the top's run by the library's own twins of the stepper; what is looked at behind it, in four parts -/
theorem op : ∀ w : World, (fencedOpening treeTable prg w 3820).map (fun s => (s.heap, s.gens, s.drawn, s.toks)) = some (boot_heap w.params, Array.mk [], boot_drawn, boot_toks) := boot_open (by kernel_rfl) (by decide) (fun s => by kernel_rfl)
noncomputable def rn (w : World) (os : OsState) : Option Shared := PySem.W.Fast.tw14082659384304107361 PySem.W.Fast.tw14364793385576792824 prg w 11 (some (.ref 6)) 1900 ⟨boot_heap w.params, Array.mk [], boot_drawn, boot_toks, os⟩ (topStub prg)
abbrev mods : List Str := importedModules prg.main.body
abbrev xt (s : Shared) : Bool := xlAt view [] s && recOk PySem.Challenge.rw_xm0389_01.row.records s
noncomputable abbrev sn (s : Shared) := PySem.W.Fast.tw4187177175401517315 view [] mods xt true s
theorem lookA : ∀ w, (fun os => (rn w os).map fun s => (sn s).1) = fun _ => some (expectedOf view) := fun w => by kernel_rfl
theorem lookB : ∀ w, (fun os => (rn w os).map fun s => (staticsOk mods (boot_heap w.params) s.heap && namesBound prg s.heap && gensDone s && laidKept (boot_heap w.params) s.heap, (sn s).2.1, (sn s).2.2.1, (sn s).2.2.2.1, (sn s).2.2.2.2.2.2.1, (sn s).2.2.2.2.2.2.2.2)) =
  fun _ => some (true, bltViewBooted, true, true, plainGoodD view [], clsGoodW view []) := fun w => by kernel_rfl
theorem lookC : ∀ w, (fun os => (rn w os).map fun s => ((sn s).2.2.2.2.1, (sn s).2.2.2.2.2.1, (sn s).2.2.2.2.2.2.2.1)) = fun _ => some (pinGoodD (drecsOf view), plainGoodE view (looseW view []), wideGood view) := fun w => by kernel_rfl
theorem lookD : ∀ w, (fun os => (rn w os).map obs) = fun _ => some want := fun w => by kernel_rfl
theorem p2 {α β : Type} {a a' : α} {b b' : β} (h : (a, b) = (a', b')) : a = a' ∧ b = b' := Prod.mk.inj h
theorem run_of {f f' : (String → Option Builtin) → Program → World → Nat → Option Value → Nat → Shared → Thread → Option Shared} {g g' : String → Option Builtin} (hf : f = f') (hg : g = g') {p : Program} {w : World} {n : Nat} {v : Option Value} {m : Nat} {s₀ : Shared} {t : Thread} {o : Option Shared} (h : f' g' p w n v m s₀ t = o) : f g p w n v m s₀ t = o := by
  subst hf hg; exact h
theorem rn_is {w : World} {os : OsState} {s : Shared} (r : rn w os = some s) : topRun treeTable prg w 11 (some (.ref 6)) 1900 ⟨boot_heap w.params, Array.mk [], boot_drawn, boot_toks, os⟩ (topStub prg) = some s := by
  unfold rn at r
  exact run_of PySem.W.Fast.te14082659384304107361 PySem.W.Fast.te14364793385576792824 r
theorem topFrom_of {p : Program} {w : World} {N n : Nat} {v : Option Value} {s₀ s : Shared} (z1 : (s₀.heap.isNs mainGlobals && s₀.gens.size == 0) = true) (z2 : s₀.heap.objs.size = n) (z3 : s₀.heap.nsMap mainGlobals "__annotations__" = v) (r : topRun treeTable p w n v N s₀ (topStub p) = some s)
    (b : (staticsOk (importedModules p.main.body) s₀.heap s.heap && namesBound p s.heap && gensDone s && laidKept s₀.heap s.heap) = true) : topFrom treeTable p w N s₀ = some s := by
  subst z2 z3
  unfold topFrom
  rw [z1]
  dsimp only
  rw [r]
  show (match staticsOk (importedModules p.main.body) s₀.heap s.heap && namesBound p s.heap && gensDone s && laidKept s₀.heap s.heap with | true => _ | false => _) = _
  rw [b]
theorem nine {A B C D E F G H I : Type} {x : A × B × C × D × E × F × G × H × I} {a : A} {b : B} {c : C} {d : D} {e : E} {f : F} {g : G} {h : H} {i : I} (h0 : x.1 = a) (h1 : x.2.1 = b) (h2 : x.2.2.1 = c) (h3 : x.2.2.2.1 = d) (h4 : x.2.2.2.2.1 = e) (h5 : x.2.2.2.2.2.1 = f) (h6 : x.2.2.2.2.2.2.1 = g) (h7 : x.2.2.2.2.2.2.2.1 = h) (h8 : x.2.2.2.2.2.2.2.2 = i) : x = (a, b, c, d, e, f, g, h, i) := by
  subst h0 h1 h2 h3 h4 h5 h6 h7 h8; rfl
theorem map_at {α β : Type} {o : Option α} {s : α} {f : α → β} {b : β} (e : o = some s) (h : o.map f = some b) : f s = b := by subst e; exact Option.some.inj h
theorem ends_is {w : World} {os : OsState} {s : Shared} (r : rn w os = some s) (b : (staticsOk mods (boot_heap w.params) s.heap && namesBound prg s.heap && gensDone s && laidKept (boot_heap w.params) s.heap) = true) :
    topFrom treeTable prg w 3820 ⟨boot_heap w.params, Array.mk [], boot_drawn, boot_toks, os⟩ = some s :=
  topFrom_of (by kernel_rfl) (n := 11) (v := some (.ref 6)) (by kernel_rfl) (by kernel_rfl) (topRun_mono 1920 _ _ _ _ (rn_is r)) b
theorem seen_is {s : Shared} (a : sn s = openGood view []) : openSeen view [] mods xt true s = openGood view [] := (congrFun (congrFun (congrFun (congrFun (congrFun (congrFun PySem.W.Fast.te4187177175401517315 view) []) mods) xt) true) s).trans a
theorem good_is {s : Shared} (a0 : (sn s).1 = expectedOf view) (hB : ((sn s).2.1, (sn s).2.2.1, (sn s).2.2.2.1, (sn s).2.2.2.2.2.2.1, (sn s).2.2.2.2.2.2.2.2) = (bltViewBooted, true, true, plainGoodD view [], clsGoodW view []))
    (hC : ((sn s).2.2.2.2.1, (sn s).2.2.2.2.2.1, (sn s).2.2.2.2.2.2.2.1) = (pinGoodD (drecsOf view), plainGoodE view (looseW view []), wideGood view)) : sn s = openGood view [] := by
  obtain ⟨b1, hB⟩ := p2 hB
  obtain ⟨b2, hB⟩ := p2 hB
  obtain ⟨b3, hB⟩ := p2 hB
  obtain ⟨b6, b8⟩ := p2 hB
  obtain ⟨c4, hC⟩ := p2 hC
  obtain ⟨c5, c7⟩ := p2 hC
  exact nine a0 b1 b2 b3 c4 c5 b6 c7 b8
theorem opened {w : World} : ∃ os, fencedOpening treeTable prg w 3820 = some ⟨boot_heap w.params, Array.mk [], boot_drawn, boot_toks, os⟩ := by
  obtain ⟨⟨h, gs, d, k, os⟩, e, e'⟩ := Option.map_eq_some_iff.mp (op w)
  obtain ⟨rfl, rfl, rfl, rfl⟩ : h = boot_heap w.params ∧ gs = Array.mk [] ∧ d = boot_drawn ∧ k = boot_toks := by simpa only [Prod.mk.injEq] using e'
  exact ⟨os, e⟩
theorem all_is (w : World) (os : OsState) : ∃ s, topFrom treeTable prg w 3820 ⟨boot_heap w.params, Array.mk [], boot_drawn, boot_toks, os⟩ = some s ∧ openSeen view [] mods xt true s = openGood view [] ∧ obs s = want := by
  obtain ⟨s, r, a0⟩ := Option.map_eq_some_iff.mp (congrFun (lookA w) os)
  have hB := map_at r (congrFun (lookB w) os)
  have hC := map_at r (congrFun (lookC w) os)
  obtain ⟨b0, hB⟩ := p2 hB
  exact ⟨s, ends_is r b0, seen_is (good_is a0 hB hC), map_at r (congrFun (lookD w) os)⟩
theorem left_of {p q : Program} {l : List Str} {X : Shared → Bool} {α : Type} {Yf : Shared → α} {y : α} {N : Nat} (h : ∀ w, ∃ s₀ s, fencedOpening treeTable p w N = some s₀ ∧ topFrom treeTable p w N s₀ = some s ∧ openSeen q l (importedModules p.main.body) X true s = openGood q l ∧ Yf s = y) : LeftO p q l X Yf (fun _ => y) N := fun w => by
  obtain ⟨s₀, s, e1, e2, e3, e4⟩ := h w
  unfold openEnds
  rw [e1]
  show (topFrom treeTable p w N s₀).map _ = _
  rw [e2, Option.map_some, e3, e4]
theorem top_ok : LeftO prg view [] xt obs (fun _ => want) 3820 := left_of fun w => by
  obtain ⟨os, e⟩ := opened (w := w)
  obtain ⟨s, t, x, y⟩ := all_is w os
  exact ⟨_, s, e, t, x, y⟩
end Mine

namespace Mine
def Seq (P : Nat → Prop) : Nat → Nat → Prop
  | _, 0 => True
  | p, n + 1 => P p ∧ Seq P (p + 1) n
theorem seq_get {P : Nat → Prop} : ∀ {n p : Nat}, Seq P p n → ∀ q, p ≤ q → q < p + n → P q
  | 0, p, _, q, h1, h2 => absurd h2 (Nat.not_lt.mpr h1)
  | n + 1, p, h, q, h1, h2 => by
    rcases Nat.lt_or_ge p q with h3 | h3
    · exact seq_get h.2 q h3 (by omega)
    · cases Nat.le_antisymm h1 h3; exact h.1
theorem t3x0 : Seq (Turn 3) 0 5 := ⟨fun _ => by kernel_rfl, fun _ => by kernel_rfl, fun _ => by kernel_rfl, fun _ => by kernel_rfl, fun _ => by kernel_rfl, trivial⟩
theorem t3x1 : Seq (Turn 3) 5 5 := ⟨fun _ => by kernel_rfl, fun _ => by kernel_rfl, fun _ => by kernel_rfl, fun _ => by kernel_rfl, fun _ => by kernel_rfl, trivial⟩
theorem t3x2 : Seq (Turn 3) 10 5 := ⟨fun _ => by kernel_rfl, fun _ => by kernel_rfl, fun _ => by kernel_rfl, fun _ => by kernel_rfl, fun _ => by kernel_rfl, trivial⟩
theorem t3x3 : Seq (Turn 3) 15 5 := ⟨fun _ => by kernel_rfl, fun _ => by kernel_rfl, fun _ => by kernel_rfl, fun _ => by kernel_rfl, fun _ => by kernel_rfl, trivial⟩
theorem t3x4 : Seq (Turn 3) 20 5 := ⟨fun _ => by kernel_rfl, fun _ => by kernel_rfl, fun _ => by kernel_rfl, fun _ => by kernel_rfl, fun _ => by kernel_rfl, trivial⟩
theorem t3x5 : Seq (Turn 3) 25 5 := ⟨fun _ => by kernel_rfl, fun _ => by kernel_rfl, fun _ => by kernel_rfl, fun _ => by kernel_rfl, fun _ => by kernel_rfl, trivial⟩
theorem t3x6 : Seq (Turn 3) 30 5 := ⟨fun _ => by kernel_rfl, fun _ => by kernel_rfl, fun _ => by kernel_rfl, fun _ => by kernel_rfl, fun _ => by kernel_rfl, trivial⟩
theorem t3x7 : Seq (Turn 3) 35 5 := ⟨fun _ => by kernel_rfl, fun _ => by kernel_rfl, fun _ => by kernel_rfl, fun _ => by kernel_rfl, fun _ => by kernel_rfl, trivial⟩
theorem t3x8 : Seq (Turn 3) 40 5 := ⟨fun _ => by kernel_rfl, fun _ => by kernel_rfl, fun _ => by kernel_rfl, fun _ => by kernel_rfl, fun _ => by kernel_rfl, trivial⟩
theorem t3x9 : Seq (Turn 3) 45 5 := ⟨fun _ => by kernel_rfl, fun _ => by kernel_rfl, fun _ => by kernel_rfl, fun _ => by kernel_rfl, fun _ => by kernel_rfl, trivial⟩
theorem t3x10 : Seq (Turn 3) 50 5 := ⟨fun _ => by kernel_rfl, fun _ => by kernel_rfl, fun _ => by kernel_rfl, fun _ => by kernel_rfl, fun _ => by kernel_rfl, trivial⟩
theorem t3x11 : Seq (Turn 3) 55 5 := ⟨fun _ => by kernel_rfl, fun _ => by kernel_rfl, fun _ => by kernel_rfl, fun _ => by kernel_rfl, fun _ => by kernel_rfl, trivial⟩
theorem t3x12 : Seq (Turn 3) 60 5 := ⟨fun _ => by kernel_rfl, fun _ => by kernel_rfl, fun _ => by kernel_rfl, fun _ => by kernel_rfl, fun _ => by kernel_rfl, trivial⟩
theorem t4x0 : Seq (Turn 4) 0 5 := ⟨fun _ => by kernel_rfl, fun _ => by kernel_rfl, fun _ => by kernel_rfl, fun _ => by kernel_rfl, fun _ => by kernel_rfl, trivial⟩
theorem t4x1 : Seq (Turn 4) 5 5 := ⟨fun _ => by kernel_rfl, fun _ => by kernel_rfl, fun _ => by kernel_rfl, fun _ => by kernel_rfl, fun _ => by kernel_rfl, trivial⟩
theorem t4x2 : Seq (Turn 4) 10 5 := ⟨fun _ => by kernel_rfl, fun _ => by kernel_rfl, fun _ => by kernel_rfl, fun _ => by kernel_rfl, fun _ => by kernel_rfl, trivial⟩
theorem t4x3 : Seq (Turn 4) 15 5 := ⟨fun _ => by kernel_rfl, fun _ => by kernel_rfl, fun _ => by kernel_rfl, fun _ => by kernel_rfl, fun _ => by kernel_rfl, trivial⟩
theorem t4x4 : Seq (Turn 4) 20 5 := ⟨fun _ => by kernel_rfl, fun _ => by kernel_rfl, fun _ => by kernel_rfl, fun _ => by kernel_rfl, fun _ => by kernel_rfl, trivial⟩
theorem t4x5 : Seq (Turn 4) 25 5 := ⟨fun _ => by kernel_rfl, fun _ => by kernel_rfl, fun _ => by kernel_rfl, fun _ => by kernel_rfl, fun _ => by kernel_rfl, trivial⟩
theorem t4x6 : Seq (Turn 4) 30 5 := ⟨fun _ => by kernel_rfl, fun _ => by kernel_rfl, fun _ => by kernel_rfl, fun _ => by kernel_rfl, fun _ => by kernel_rfl, trivial⟩
theorem t4x7 : Seq (Turn 4) 35 5 := ⟨fun _ => by kernel_rfl, fun _ => by kernel_rfl, fun _ => by kernel_rfl, fun _ => by kernel_rfl, fun _ => by kernel_rfl, trivial⟩
theorem t4x8 : Seq (Turn 4) 40 5 := ⟨fun _ => by kernel_rfl, fun _ => by kernel_rfl, fun _ => by kernel_rfl, fun _ => by kernel_rfl, fun _ => by kernel_rfl, trivial⟩
theorem t4x9 : Seq (Turn 4) 45 5 := ⟨fun _ => by kernel_rfl, fun _ => by kernel_rfl, fun _ => by kernel_rfl, fun _ => by kernel_rfl, fun _ => by kernel_rfl, trivial⟩
theorem t4x10 : Seq (Turn 4) 50 5 := ⟨fun _ => by kernel_rfl, fun _ => by kernel_rfl, fun _ => by kernel_rfl, fun _ => by kernel_rfl, fun _ => by kernel_rfl, trivial⟩
theorem t4x11 : Seq (Turn 4) 55 5 := ⟨fun _ => by kernel_rfl, fun _ => by kernel_rfl, fun _ => by kernel_rfl, fun _ => by kernel_rfl, fun _ => by kernel_rfl, trivial⟩
theorem t4x12 : Seq (Turn 4) 60 5 := ⟨fun _ => by kernel_rfl, fun _ => by kernel_rfl, fun _ => by kernel_rfl, fun _ => by kernel_rfl, fun _ => by kernel_rfl, trivial⟩
theorem t5x0 : Seq (Turn 5) 0 5 := ⟨fun _ => by kernel_rfl, fun _ => by kernel_rfl, fun _ => by kernel_rfl, fun _ => by kernel_rfl, fun _ => by kernel_rfl, trivial⟩
theorem t5x1 : Seq (Turn 5) 5 5 := ⟨fun _ => by kernel_rfl, fun _ => by kernel_rfl, fun _ => by kernel_rfl, fun _ => by kernel_rfl, fun _ => by kernel_rfl, trivial⟩
theorem t5x2 : Seq (Turn 5) 10 5 := ⟨fun _ => by kernel_rfl, fun _ => by kernel_rfl, fun _ => by kernel_rfl, fun _ => by kernel_rfl, fun _ => by kernel_rfl, trivial⟩
theorem t5x3 : Seq (Turn 5) 15 5 := ⟨fun _ => by kernel_rfl, fun _ => by kernel_rfl, fun _ => by kernel_rfl, fun _ => by kernel_rfl, fun _ => by kernel_rfl, trivial⟩
theorem t5x4 : Seq (Turn 5) 20 5 := ⟨fun _ => by kernel_rfl, fun _ => by kernel_rfl, fun _ => by kernel_rfl, fun _ => by kernel_rfl, fun _ => by kernel_rfl, trivial⟩
theorem t5x5 : Seq (Turn 5) 25 5 := ⟨fun _ => by kernel_rfl, fun _ => by kernel_rfl, fun _ => by kernel_rfl, fun _ => by kernel_rfl, fun _ => by kernel_rfl, trivial⟩
theorem t5x6 : Seq (Turn 5) 30 5 := ⟨fun _ => by kernel_rfl, fun _ => by kernel_rfl, fun _ => by kernel_rfl, fun _ => by kernel_rfl, fun _ => by kernel_rfl, trivial⟩
theorem t5x7 : Seq (Turn 5) 35 5 := ⟨fun _ => by kernel_rfl, fun _ => by kernel_rfl, fun _ => by kernel_rfl, fun _ => by kernel_rfl, fun _ => by kernel_rfl, trivial⟩
theorem t5x8 : Seq (Turn 5) 40 5 := ⟨fun _ => by kernel_rfl, fun _ => by kernel_rfl, fun _ => by kernel_rfl, fun _ => by kernel_rfl, fun _ => by kernel_rfl, trivial⟩
theorem t5x9 : Seq (Turn 5) 45 5 := ⟨fun _ => by kernel_rfl, fun _ => by kernel_rfl, fun _ => by kernel_rfl, fun _ => by kernel_rfl, fun _ => by kernel_rfl, trivial⟩
theorem t5x10 : Seq (Turn 5) 50 5 := ⟨fun _ => by kernel_rfl, fun _ => by kernel_rfl, fun _ => by kernel_rfl, fun _ => by kernel_rfl, fun _ => by kernel_rfl, trivial⟩
theorem t5x11 : Seq (Turn 5) 55 5 := ⟨fun _ => by kernel_rfl, fun _ => by kernel_rfl, fun _ => by kernel_rfl, fun _ => by kernel_rfl, fun _ => by kernel_rfl, trivial⟩
theorem t5x12 : Seq (Turn 5) 60 5 := ⟨fun _ => by kernel_rfl, fun _ => by kernel_rfl, fun _ => by kernel_rfl, fun _ => by kernel_rfl, fun _ => by kernel_rfl, trivial⟩
theorem t6x0 : Seq (Turn 6) 0 5 := ⟨fun _ => by kernel_rfl, fun _ => by kernel_rfl, fun _ => by kernel_rfl, fun _ => by kernel_rfl, fun _ => by kernel_rfl, trivial⟩
theorem t6x1 : Seq (Turn 6) 5 5 := ⟨fun _ => by kernel_rfl, fun _ => by kernel_rfl, fun _ => by kernel_rfl, fun _ => by kernel_rfl, fun _ => by kernel_rfl, trivial⟩
theorem t6x2 : Seq (Turn 6) 10 5 := ⟨fun _ => by kernel_rfl, fun _ => by kernel_rfl, fun _ => by kernel_rfl, fun _ => by kernel_rfl, fun _ => by kernel_rfl, trivial⟩
theorem t6x3 : Seq (Turn 6) 15 5 := ⟨fun _ => by kernel_rfl, fun _ => by kernel_rfl, fun _ => by kernel_rfl, fun _ => by kernel_rfl, fun _ => by kernel_rfl, trivial⟩
theorem t6x4 : Seq (Turn 6) 20 5 := ⟨fun _ => by kernel_rfl, fun _ => by kernel_rfl, fun _ => by kernel_rfl, fun _ => by kernel_rfl, fun _ => by kernel_rfl, trivial⟩
theorem t6x5 : Seq (Turn 6) 25 5 := ⟨fun _ => by kernel_rfl, fun _ => by kernel_rfl, fun _ => by kernel_rfl, fun _ => by kernel_rfl, fun _ => by kernel_rfl, trivial⟩
theorem t6x6 : Seq (Turn 6) 30 5 := ⟨fun _ => by kernel_rfl, fun _ => by kernel_rfl, fun _ => by kernel_rfl, fun _ => by kernel_rfl, fun _ => by kernel_rfl, trivial⟩
theorem t6x7 : Seq (Turn 6) 35 5 := ⟨fun _ => by kernel_rfl, fun _ => by kernel_rfl, fun _ => by kernel_rfl, fun _ => by kernel_rfl, fun _ => by kernel_rfl, trivial⟩
theorem t6x8 : Seq (Turn 6) 40 5 := ⟨fun _ => by kernel_rfl, fun _ => by kernel_rfl, fun _ => by kernel_rfl, fun _ => by kernel_rfl, fun _ => by kernel_rfl, trivial⟩
theorem t6x9 : Seq (Turn 6) 45 5 := ⟨fun _ => by kernel_rfl, fun _ => by kernel_rfl, fun _ => by kernel_rfl, fun _ => by kernel_rfl, fun _ => by kernel_rfl, trivial⟩
theorem t6x10 : Seq (Turn 6) 50 5 := ⟨fun _ => by kernel_rfl, fun _ => by kernel_rfl, fun _ => by kernel_rfl, fun _ => by kernel_rfl, fun _ => by kernel_rfl, trivial⟩
theorem t6x11 : Seq (Turn 6) 55 5 := ⟨fun _ => by kernel_rfl, fun _ => by kernel_rfl, fun _ => by kernel_rfl, fun _ => by kernel_rfl, fun _ => by kernel_rfl, trivial⟩
theorem t6x12 : Seq (Turn 6) 60 5 := ⟨fun _ => by kernel_rfl, fun _ => by kernel_rfl, fun _ => by kernel_rfl, fun _ => by kernel_rfl, fun _ => by kernel_rfl, trivial⟩
theorem t7x0 : Seq (Turn 7) 0 5 := ⟨fun _ => by kernel_rfl, fun _ => by kernel_rfl, fun _ => by kernel_rfl, fun _ => by kernel_rfl, fun _ => by kernel_rfl, trivial⟩
theorem t7x1 : Seq (Turn 7) 5 5 := ⟨fun _ => by kernel_rfl, fun _ => by kernel_rfl, fun _ => by kernel_rfl, fun _ => by kernel_rfl, fun _ => by kernel_rfl, trivial⟩
theorem t7x2 : Seq (Turn 7) 10 5 := ⟨fun _ => by kernel_rfl, fun _ => by kernel_rfl, fun _ => by kernel_rfl, fun _ => by kernel_rfl, fun _ => by kernel_rfl, trivial⟩
theorem t7x3 : Seq (Turn 7) 15 5 := ⟨fun _ => by kernel_rfl, fun _ => by kernel_rfl, fun _ => by kernel_rfl, fun _ => by kernel_rfl, fun _ => by kernel_rfl, trivial⟩
theorem t7x4 : Seq (Turn 7) 20 5 := ⟨fun _ => by kernel_rfl, fun _ => by kernel_rfl, fun _ => by kernel_rfl, fun _ => by kernel_rfl, fun _ => by kernel_rfl, trivial⟩
theorem t7x5 : Seq (Turn 7) 25 5 := ⟨fun _ => by kernel_rfl, fun _ => by kernel_rfl, fun _ => by kernel_rfl, fun _ => by kernel_rfl, fun _ => by kernel_rfl, trivial⟩
theorem t7x6 : Seq (Turn 7) 30 5 := ⟨fun _ => by kernel_rfl, fun _ => by kernel_rfl, fun _ => by kernel_rfl, fun _ => by kernel_rfl, fun _ => by kernel_rfl, trivial⟩
theorem t7x7 : Seq (Turn 7) 35 5 := ⟨fun _ => by kernel_rfl, fun _ => by kernel_rfl, fun _ => by kernel_rfl, fun _ => by kernel_rfl, fun _ => by kernel_rfl, trivial⟩
theorem t7x8 : Seq (Turn 7) 40 5 := ⟨fun _ => by kernel_rfl, fun _ => by kernel_rfl, fun _ => by kernel_rfl, fun _ => by kernel_rfl, fun _ => by kernel_rfl, trivial⟩
theorem t7x9 : Seq (Turn 7) 45 5 := ⟨fun _ => by kernel_rfl, fun _ => by kernel_rfl, fun _ => by kernel_rfl, fun _ => by kernel_rfl, fun _ => by kernel_rfl, trivial⟩
theorem t7x10 : Seq (Turn 7) 50 5 := ⟨fun _ => by kernel_rfl, fun _ => by kernel_rfl, fun _ => by kernel_rfl, fun _ => by kernel_rfl, fun _ => by kernel_rfl, trivial⟩
theorem t7x11 : Seq (Turn 7) 55 5 := ⟨fun _ => by kernel_rfl, fun _ => by kernel_rfl, fun _ => by kernel_rfl, fun _ => by kernel_rfl, fun _ => by kernel_rfl, trivial⟩
theorem t7x12 : Seq (Turn 7) 60 5 := ⟨fun _ => by kernel_rfl, fun _ => by kernel_rfl, fun _ => by kernel_rfl, fun _ => by kernel_rfl, fun _ => by kernel_rfl, trivial⟩
theorem t8x0 : Seq (Turn 8) 0 5 := ⟨fun _ => by kernel_rfl, fun _ => by kernel_rfl, fun _ => by kernel_rfl, fun _ => by kernel_rfl, fun _ => by kernel_rfl, trivial⟩
theorem t8x1 : Seq (Turn 8) 5 5 := ⟨fun _ => by kernel_rfl, fun _ => by kernel_rfl, fun _ => by kernel_rfl, fun _ => by kernel_rfl, fun _ => by kernel_rfl, trivial⟩
theorem t8x2 : Seq (Turn 8) 10 5 := ⟨fun _ => by kernel_rfl, fun _ => by kernel_rfl, fun _ => by kernel_rfl, fun _ => by kernel_rfl, fun _ => by kernel_rfl, trivial⟩
theorem t8x3 : Seq (Turn 8) 15 5 := ⟨fun _ => by kernel_rfl, fun _ => by kernel_rfl, fun _ => by kernel_rfl, fun _ => by kernel_rfl, fun _ => by kernel_rfl, trivial⟩
theorem t8x4 : Seq (Turn 8) 20 5 := ⟨fun _ => by kernel_rfl, fun _ => by kernel_rfl, fun _ => by kernel_rfl, fun _ => by kernel_rfl, fun _ => by kernel_rfl, trivial⟩
theorem t8x5 : Seq (Turn 8) 25 5 := ⟨fun _ => by kernel_rfl, fun _ => by kernel_rfl, fun _ => by kernel_rfl, fun _ => by kernel_rfl, fun _ => by kernel_rfl, trivial⟩
theorem t8x6 : Seq (Turn 8) 30 5 := ⟨fun _ => by kernel_rfl, fun _ => by kernel_rfl, fun _ => by kernel_rfl, fun _ => by kernel_rfl, fun _ => by kernel_rfl, trivial⟩
theorem t8x7 : Seq (Turn 8) 35 5 := ⟨fun _ => by kernel_rfl, fun _ => by kernel_rfl, fun _ => by kernel_rfl, fun _ => by kernel_rfl, fun _ => by kernel_rfl, trivial⟩
theorem t8x8 : Seq (Turn 8) 40 5 := ⟨fun _ => by kernel_rfl, fun _ => by kernel_rfl, fun _ => by kernel_rfl, fun _ => by kernel_rfl, fun _ => by kernel_rfl, trivial⟩
theorem t8x9 : Seq (Turn 8) 45 5 := ⟨fun _ => by kernel_rfl, fun _ => by kernel_rfl, fun _ => by kernel_rfl, fun _ => by kernel_rfl, fun _ => by kernel_rfl, trivial⟩
theorem t8x10 : Seq (Turn 8) 50 5 := ⟨fun _ => by kernel_rfl, fun _ => by kernel_rfl, fun _ => by kernel_rfl, fun _ => by kernel_rfl, fun _ => by kernel_rfl, trivial⟩
theorem t8x11 : Seq (Turn 8) 55 5 := ⟨fun _ => by kernel_rfl, fun _ => by kernel_rfl, fun _ => by kernel_rfl, fun _ => by kernel_rfl, fun _ => by kernel_rfl, trivial⟩
theorem t8x12 : Seq (Turn 8) 60 5 := ⟨fun _ => by kernel_rfl, fun _ => by kernel_rfl, fun _ => by kernel_rfl, fun _ => by kernel_rfl, fun _ => by kernel_rfl, trivial⟩
theorem turns0 : Seq (fun w => Seq (fun c => Seq (Turn (3 + w)) (5 * c) 5) 0 13) 0 6 :=
  ⟨⟨t3x0, t3x1, t3x2, t3x3, t3x4, t3x5, t3x6, t3x7, t3x8, t3x9, t3x10, t3x11, t3x12, trivial⟩,
   ⟨t4x0, t4x1, t4x2, t4x3, t4x4, t4x5, t4x6, t4x7, t4x8, t4x9, t4x10, t4x11, t4x12, trivial⟩,
   ⟨t5x0, t5x1, t5x2, t5x3, t5x4, t5x5, t5x6, t5x7, t5x8, t5x9, t5x10, t5x11, t5x12, trivial⟩,
   ⟨t6x0, t6x1, t6x2, t6x3, t6x4, t6x5, t6x6, t6x7, t6x8, t6x9, t6x10, t6x11, t6x12, trivial⟩,
   ⟨t7x0, t7x1, t7x2, t7x3, t7x4, t7x5, t7x6, t7x7, t7x8, t7x9, t7x10, t7x11, t7x12, trivial⟩,
   ⟨t8x0, t8x1, t8x2, t8x3, t8x4, t8x5, t8x6, t8x7, t8x8, t8x9, t8x10, t8x11, t8x12, trivial⟩, trivial⟩
theorem turns (w p : Nat) (hw : w < 6) (hp : p < 65) : Turn (3 + w) p := seq_get (seq_get (seq_get turns0 w (Nat.zero_le _) (by omega)) (p / 5) (Nat.zero_le _) (by omega)) p (by omega) (by omega)
end Mine

namespace Mine
open PySem PySem.W PySem.Calls PyProof.Rows
def posOf : Stmt → Pos
  | .FunctionDef _ _ _ _ _ _ _ _ _ p => p
  | _ => default
def dL : DefRec := ⟨nameOf (defK 35), prm 35, bodyOf (defK 35), scopeOf (defK 35), posOf (defK 35)⟩
abbrev rw1 : OpenRow := PySem.Challenge.rw_xm0389_01.row
theorem script_lo {R : WRecords} {w : World} {s₀ s₁ : Shared} {ns : List Int} {a : Addr} {as : List Addr} {us : Array Value} (L : Laid R w s₀ s₁ [ofPy (PyData.list (ns.map PyData.int))] [.ref a] as) (l : s₁.heap.IsList a us) : s₁.heap.get? a = some (LO us.toList 0) := by
  obtain ⟨ord, _, e⟩ := L.laid
  obtain ⟨o, ho, _, n, hd⟩ := l
  unfold ofPy layAllW layW at e
  split at e
  · rename_i r q
    split at q
    · rename_i r' _
      cases q
      simp only [layAllW, Option.some.injEq, Prod.mk.injEq, List.cons.injEq, Value.ref.injEq, and_true] at e
      obtain ⟨rfl, rfl⟩ := e
      have g := Heap.get?_push_size r'.2.heap (o := LO r'.1 0) rfl
      have ho' : (r'.2.heap.push (LO r'.1 0)).get? r'.2.heap.objs.size = some o := ho
      rw [g] at ho'
      cases ho'
      injection hd with h1 _
      rw [← h1]
      exact g
    · cases q
  · cases e
theorem bind_law (pm cd doc v : Value) : bindArgs (docDef dL.name dL.params dL.body dL.scope pm cd doc) ⟨[v], []⟩ = pure [(Str.ofString "script", v)] := by kernel_rfl
theorem cells_at (n : Nat) : cellsFrom n dL.scope.names [] = [(Str.ofString "w", n)] := by kernel_rfl
theorem kinds_law {n : Nat} (v : Value) : ∀ x ∈ [((Str.ofString "script"), v)], dL.scope.names.lookup x.1 = some .local ∨ (dL.scope.names.lookup x.1 = some .cell ∧ ((cellsFrom n dL.scope.names []).lookup x.1).isSome = true) := fun x hx => by
  cases List.mem_singleton.mp hx
  exact .inl (by kernel_rfl)
theorem cells_law : ((cellsFrom 0 dL.scope.names []).map (·.1)).Nodup := by rw [cells_at]; decide +kernel
theorem cells_look (n : Nat) : (cellsFrom n dL.scope.names []).lookup (Str.ofString "w") = some n := by kernel_rfl
theorem walk : WalkX view [] (XL view []) obs (fun _ => want) rw1.toRowW dL [] fun f vs => PySem.call f vs := by
  intro w s₀ s₁ mg mb G y a o pm cd doc dV kV ho hd hcd hD hmg hg args vals as L hpre hlay hrd hwl hlo
  have T := G.T
  have KX := (pick_in _ : (fragAt s₀.heap).In s₀.heap).keeps L.keeps
  clear hmg G
  wrow_args hpre hlay hrd hwl hlo
  have e1 : dV = .none := Dflts.none hD (by kernel_rfl)
  have e2 : kV = .none := Dflts.noKw hD
  subst e1 e2
  refine enter_call ?_
  refine codeAny_mono ?_ (fun _ _ g => GoodW.toG g)
  refine call_cellsN (by decide) ho (fd_plain hd) (Top.nolimit T) hcd (bind_law _ _ _ _) (kinds_law _) cells_law fun h₁ tk₁ cells F N X0 => ?_
  rw [cells_at] at X0
  obtain ⟨oc, rfl, hdc⟩ := CellsAre.one X0
  refine law_core (hT := turns) (kok_at y) KX T (by rfl) rfl rfl rfl rfl (by exact cells_look _) F (by kernel_rfl) N (hdc.trans (by kernel_rfl)) (script_lo L (by assumption)) (by assumption) (by omega) fun m h' tk F' => ?_
  refine goodW_bool F' hg (fun _ => rfl) ?_ rfl
  kernel_rfl
theorem head (said : rw1.wellSaid = true) (hw : rw1.toRowW.promised) : rw1.Holds :=
  holds_openX (Xt := fun s => xlAt view [] s && recOk rw1.records s) top_ok (fun s e => xl_of s (Bool.and_eq_true_iff.mp e).1) XL.keeps (d := dL) (kwd := []) (by kernel_rfl) (by kernel_rfl) (by kernel_rfl) (fun s e => recFacts_of (Bool.and_eq_true_iff.mp e).2) (by rfl) said (by decide +kernel) ⟨rfl, rfl, rfl, rfl, rfl, by decide +kernel⟩ hw walk
end Mine
theorem PySem.Challenge.cw_xm0389_01_holds : PySem.Challenge.rw_xm0389_01.Holds := by
  w_on; o_law
  refine Mine.head (by assumption) ?_
  w_witness2
